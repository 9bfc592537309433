import PyProof.Rows.All
import Wide.All
import OpenK.AllK
import Wide.FinOn
import OpenK.KLine
import Lean
import PySem.Challenge.RW_nu0040_01
set_option Elab.async false
set_option maxRecDepth 100000
set_option tactic.hygienic false
set_option maxHeartbeats 4000000
set_option linter.all false
set_option genInjectivity false
set_option genCtorIdx false
set_option genSizeOf false
set_option genSizeOfSpec false
namespace Mine
open List (all_cons all_eq_true any_cons append_assoc append_inj' append_nil append_toArray cons_append cons_ne_nil drop_drop drop_left' drop_length drop_zero find?_cons flatten_append flatten_cons foldl_cons forIn_cons getD_eq_getElem?_getD getElem?_append_left getElem?_append_right getElem?_cons_succ getElem?_drop getElem?_eq_getElem getElem?_eq_none getElem?_map getElem?_toArray getElem_mem getElem_range head_eq_of_cons_eq isEmpty_iff length_append length_cons length_drop length_map length_nil length_range length_replicate length_set length_singleton length_take lookup_cons map_append map_cons map_map map_nil map_replicate mem_append mem_append_left mem_append_right mem_cons mem_cons_of_mem mem_cons_self mem_iff_getElem? mem_map mem_map_of_mem mem_of_getElem? mem_singleton nil_append nodup_append nodup_cons nodup_nil pairwise_cons range' rec replicate replicate_succ reverse_cons size_toArray take_add_one take_append_drop take_left' take_of_length_le take_sublist take_succ_cons take_zero toArray zip_cons_cons)
open Nat (add_assoc add_comm add_le_add add_le_add_left add_le_add_right add_right_comm add_sub_cancel' add_sub_cancel_left add_zero beq ble eq_of_beq_eq_true le_add_left le_add_right le_antisymm le_of_ble_eq_true le_of_eq le_of_lt le_of_lt_succ le_of_not_lt le_refl le_succ le_trans lt_add_of_pos_right lt_irrefl lt_of_le_of_lt lt_of_lt_of_le min_eq_left min_le_right mod_lt mul_le_mul_left mul_succ ne_of_lt not_lt_zero sub_le sub_le_iff_le_add sub_self succ_add_eq_add_succ succ_le_succ succ_pos zero_add zero_le)
open Bool (and_eq_true false_eq_true noConfusion not_eq_true' or_eq_true_iff)
open Int (add_sub_cancel ediv_one emod_eq_of_lt emod_lt_of_pos emod_nonneg eq_ofNat_of_zero_le mul_comm natCast_add natCast_nonneg not_le not_lt ofNat_le ofNat_lt toNat toNat_lt toNat_natCast)
open Option (bind_some casesOn isNone_iff_eq_none isSome_iff_exists isSome_of_eq_some map_eq_some_iff)
open Array (length_toList size_map toArray_toList)
noncomputable section
set_option compiler.extract_closed false
section
variable {a b c d k l m:Nat} {x y z:Int}
theorem sF(h:a≤k)(e:k≤m):a≤m:=le_trans h e
theorem zN2(h:a≤k)(e:k<m):a<m:=lt_of_le_of_lt h e
theorem zN3(h:a<k)(e:k≤m+1):a≤m:=Nat.le_of_succ_le_succ (le_trans h e)
theorem PQ(h:a<k)(e:k≤m):a<m:=le_trans h e
theorem PR(h:a+d<k)(e:c≤d):a+c<k:=lt_of_le_of_lt (add_le_add_left e a) h
theorem zN6(h:a+d<k)(e:0≤0):a<k:=lt_of_le_of_lt (le_add_right a d) h
theorem zN7(h:a+d<k)(e:b+c≤d):a+b+c<k:=add_assoc a b c▸PR h e
theorem zN9(h:a+d≤k)(e:0≤0):a≤k:=le_trans (le_add_right a d) h
theorem zNa(h:a≤k)(e:k+c≤m):a+c≤m:=le_trans (add_le_add_right h c) e
theorem zNb(h:a≤k)(e:k+c<m):a+c<m:=lt_of_le_of_lt (add_le_add_right h c) e
theorem zNd(h:b≤k)(e:k≤m):min a b≤m:=le_trans (min_le_right a b) (sF h e)
theorem zNe(h:a<k)(e:0≤0):a≤k:=le_of_lt h
theorem zNf(h:a<k)(e:0≤0):a+1<k+1:=Nat.succ_lt_succ h
theorem AS(h:a≤k)(e:k≤1099511627776):(-1099511627776:Int)≤a∧(a:Int)≤1099511627776:=⟨Int.le_trans (by decide) (natCast_nonneg a),ofNat_le.mpr (sF h e)⟩
theorem zNh(h:a≤k)(e:k≤1099511627776):(0:Int)<1∧(-1099511627776:Int)≤0∧(0:Int)≤1099511627776∧(-1099511627776:Int)≤a∧(a:Int)≤1099511627776∧(1:Int)≤1099511627776:=have z:=AS h e;⟨by decide,by decide,by decide,z.1,z.2,by decide⟩
theorem zNi(h:a≤k)(e:0≤0):(a:Int)≤(k:Int):=ofNat_le.mpr h
theorem zNj(h:a<k)(e:0≤0):a+1≤k:=h
theorem zZ1(h:x≤y)(e:y≤z):x≤z:=Int.le_trans h e
theorem zZ2(h:x≤y)(e:z≤x):z≤y:=Int.le_trans e h
theorem zZ3(h:x<y)(e:y≤z):x<z:=Int.lt_of_lt_of_le h e
theorem zZ4(h:x≤y)(e:y<z):x<z:=Int.lt_of_le_of_lt h e
theorem zZ5(h:x≤y)(e:0≤0):¬y<x:=not_lt.mpr h
theorem zZ6(h:x<y)(e:0≤0):¬y≤x:=not_le.mpr h
theorem zZ7(h:x<y)(e:0≤0):x≤y:=Int.le_of_lt h
theorem zT1(h:a=b)(h':b≤k)(e:k≤m):a≤m:=h▸sF h' e
theorem zT2(h:b=a)(h':b≤k)(e:k≤m):a≤m:=h▸sF h' e
theorem zT3(h:a≤k)(h':b≤l)(e:k+l≤m):a+b≤m:=le_trans (add_le_add h h') e
theorem zT4(h:a≤b)(h':b≤k)(e:k≤m):a≤m:=le_trans h (sF h' e)
theorem zT6(h:a=b)(h':b<k)(e:k≤m):a<m:=h▸PQ h' e
theorem zT7(h:a<b)(h':b≤k)(e:k≤1099511627776):(-1099511627776:Int)≤a∧(a:Int)≤1099511627776:=AS (le_trans (le_of_lt h) h') e
theorem zTc(h:a=b)(h':k<b)(e:0≤0):k<a:=h▸h'
theorem zTd(h:b=a)(h':k<b)(e:0≤0):k<a:=h▸h'
theorem MF{u v lv L:Nat}(h:u+40*(lv+1)+80<L)(q:v≤u+40):v+40*lv+80<L:=lt_of_le_of_lt (add_le_add_right (le_trans (add_le_add_right q (40*lv)) (le_of_eq ((add_assoc u 40 (40*lv)).trans (congrArg (u+ ·) (add_comm 40 (40*lv)))))) 80) h
theorem MD{u v lv L:Nat}(h:u+4*(lv+1)+4<L)(q:v≤u+4):v+4*lv+4<L:=lt_of_le_of_lt (add_le_add_right (le_trans (add_le_add_right q (4*lv)) (le_of_eq ((add_assoc u 4 (4*lv)).trans (congrArg (u+ ·) (add_comm 4 (4*lv)))))) 4) h
theorem afh{u k c L:Nat}(h:u+k+c<L):u<L:=lt_of_le_of_lt (le_trans (le_add_right u k) (le_add_right _ c)) h
end
def pT(s:String)(g:Array Lean.Syntax:=#[]):Lean.Syntax:=
 ((s.splitOn " ").foldr (fun t (r:List Lean.Syntax)=>
  let x:=(t.drop 1).toString
  let c:=t.front
  let n:=c.toNat-48
  if c= '$' then g[x.length]! ::r else if c= '\'' then .atom .none x::r else if n<10 then .node .none (if x.front= '.' then "Lean.Parser.Tactic"++x else x).toName (r.take n).toArray::r.drop n else Lean.mkIdent t.toName::r) [])[0]!
def aA:Lean.Syntax:=
 let w:=" 2Lean.Parser.Term.byTactic 'by 2.withReducible 'with_reducible 1.assumption 'assumption"
 let f n w (s:String):=(s.splitOn " ").toArray.map fun s=>pT ("2group '| 2.exact 'exact 2Lean.Parser.Term.app "++s++n++w++" 2Lean.Parser.Term.byTactic 'by 2.decide 'decide 1.optConfig 0null")
 Lean.mkNullNode (f " 2null" w "sF zN2 zN3 PQ PR zN6 zN7 zN9 zNa zNb zNd zNe zNf AS zNh zNi zNj zZ1 zZ2 zZ3 zZ4 zZ5 zZ6 zZ7"++f " 3null" (w++w) "zT1 zT2 zT3 zT4 zT6 zT7 zTc zTd")
def aT(y:String)(s:Lean.Syntax):Lean.MacroM Lean.Syntax:=do
 unless s[1][0].getNumArgs=0 do Lean.Macro.throwUnsupported
 return pT ("2.first 'first 3null 2group '| 2.withReducible 'with_reducible 1.assumption 'assumption 2group '| 2.first 'first $ 2group '| 2."++y) #[aA]
local macro_rules (kind := Lean.Parser.Tactic.lia)
  | s => aT "lia 'lia 1.optConfig 1null 1.configItem 2.posConfigItem '+ ring" s
local macro_rules (kind := Lean.Parser.Tactic.omega)
  | s => aT "omega 'omega 1.optConfig 1null 1.configItem 2.posConfigItem '+ splitMinMax" s
section
open PySem PySem.W PySem.Calls PyProof.Rows
section
set_option genCtorIdx true in
inductive AV where
 |none|bool (b:Bool)|int (i:Int)|str (s:Str)|bytes (b:List UInt8)
 |tup (l:List AV)|lst (l:List AV)|aq (l:List (AV×AV))|inst (c:Addr) (fs:List (Str×AV))
 |fV (a b c:Int)|fn (a:Addr)|cls (a:Addr)
 deriving Inhabited
noncomputable def aw{α β:Type}(x:Option α)(f:α→Option β):Option β:=match x with
 |some a=>f a
 |none=>none
noncomputable def aJ{α:Type}(b:Bool)(x:Option α):Option α:=match b with
 |true=>x
 |false=>none
noncomputable def sw{α:Type}(b:Bool)(x y:α):α:=match b with
 |true=>x
 |false=>y
theorem Pn(x y:α):sw true x y=x:=rfl
theorem Pm(x y:α):sw false x y=y:=rfl
theorem cps{P:Prop}(h:∀G:Prop,(P→G)→G):P:=h P id
theorem ba{α:Type}{b:α}{G:Prop}(e:none=some b):G:=Option.noConfusion rfl (heq_of_eq e)
theorem aK{α β:Type}{x:Option α}{f:α→Option β}{b:β}{G:Prop}(e:aw x f=some b)(k:∀a,x=some a→f a=some b→G):G:=
 casesOn (motive:=fun x'=>x=x'→aw x' f=some b→G) x (fun _ e=>Option.noConfusion rfl (heq_of_eq e)) (fun p q e=>k p q e) rfl e
theorem aX{α:Type}{b:Bool}{x:Option α}{r:α}{G:Prop}(e:aJ b x=some r)(k:b=true→x=some r→G):G:=
 Bool.casesOn (motive:=fun b'=>b=b'→aJ b' x=some r→G) b (fun _ e=>ba e) (fun q e=>k q e) rfl e
theorem jN{α:Type}{b:Bool}{x y r:α}{G:Prop}(e:sw b x y=r)(k:b=true→x=r→G)(k':b=false→y=r→G):G:=
 Bool.casesOn (motive:=fun b'=>b=b'→sw b' x y=r→G) b (fun q e=>k' q e) (fun q e=>k q e) rfl e
@[elab_as_elim] theorem aC{α:Type}{a b:α}{C:α→Prop}(e:some a=some b)(h:C a):C b:=Option.some.inj e▸h
@[elab_as_elim] theorem bY{α β:Type}{a a':α}{b b':β}{C:α→β→Prop}(e:some (a,b)=some (a',b'))(h:C a b):C a' b':=
 aC (C:=fun p=>C p.1 p.2) e h
theorem aS{a b:Bool}{G:Prop}(e:(a&&b)=true)(k:a=true→b=true→G):G:=k (Bool.and_eq_true_iff.mp e).1 (Bool.and_eq_true_iff.mp e).2
theorem eE{a b c:Bool}{G:Prop}(e:(a&&b&&c)=true)(k:a=true→b=true→c=true→G):G:=aS e fun e z=>aS e fun x y=>k x y z
theorem gW{a b c d:Bool}{G:Prop}(e:(a&&b&&c&&d)=true)(k:a=true→b=true→c=true→d=true→G):G:=aS e fun e z=>eE e fun x y u=>k x y u z
theorem gX{a b c d f:Bool}{G:Prop}(e:(a&&b&&c&&d&&f)=true)(k:a=true→b=true→c=true→d=true→f=true→G):G:=aS e fun e z=>gW e fun x y u v=>k x y u v z
@[elab_as_elim] theorem gB{α:Type}[BEq α][LawfulBEq α]{x y:α}{C:α→Prop}(e:(x==y)=true)(h:C y):C x:=eq_of_beq e▸h
theorem bK[Decidable p](e:decide p=true):p:=of_decide_eq_true e
theorem cK{p}[Decidable p]{f:p→Bool}{G:Prop}(e:(if h:p then f h else false)=true)(k:∀h,f h=true→G):G:=by
 by_cases h:p
 ·exact k h (by rw[dif_pos h]at e;exact e)
 ·rw[dif_neg h]at e;exact noConfusion e
theorem ny{α:Type}{p}[Decidable p]{f:p→Option α}{r:α}{G:Prop}(e:(if h:p then f h else none)=some r)(k:∀h,f h=some r→G):G:=by
 by_cases h:p
 ·exact k h (by rw[dif_pos h]at e;exact e)
 ·rw[dif_neg h]at e;exact ba e
noncomputable def AV.on{α:Type}(d:AV)(z:α)(fb:Bool→α:=fun _=>z)(fi:Int→α:=fun _=>z)(fs:Str→α:=fun _=>z)(fy:List UInt8→α:=fun _=>z)(ft:List AV→α:=fun _=>z)(fl:List AV→α:=fun _=>z)(fd:List (AV×AV)→α:=fun _=>z)(fn:Addr→List (Str×AV)→α:=fun _ _=>z)(fr:Int→Int→Int→α:=fun _ _ _=>z):α:=
 AV.casesOn (motive_1:=fun _=>α) d z fb fi fs fy ft fl fd fn fr (fun _=>z) (fun _=>z)
section
variable {α:Type}
noncomputable def xH(d:AV)(f:Bool→Option α):Option α:=if h:d.ctorIdx=1 then AV.bool.elim (motive_1:=fun _=>Option α) d h f else none
noncomputable def bD(d:AV)(f:Int→Option α):Option α:=if h:d.ctorIdx=2 then AV.int.elim (motive_1:=fun _=>Option α) d h f else none
noncomputable def pb(d:AV)(f:Str→Option α):Option α:=if h:d.ctorIdx=3 then AV.str.elim (motive_1:=fun _=>Option α) d h f else none
noncomputable def kQ(d:AV)(f:List UInt8→Option α):Option α:=if h:d.ctorIdx=4 then AV.bytes.elim (motive_1:=fun _=>Option α) d h f else none
noncomputable def my(d:AV)(f:List AV→Option α):Option α:=if h:d.ctorIdx=5 then AV.tup.elim (motive_1:=fun _=>Option α) d h f else none
noncomputable def getL(d:AV)(f:List AV→Option α):Option α:=if h:d.ctorIdx=6 then AV.lst.elim (motive_1:=fun _=>Option α) d h f else none
noncomputable def getD(d:AV)(f:List (AV×AV)→Option α):Option α:=if h:d.ctorIdx=7 then AV.aq.elim (motive_1:=fun _=>Option α) d h f else none
noncomputable def xG(d:AV)(f:Addr→List (Str×AV)→Option α):Option α:=if h:d.ctorIdx=8 then AV.inst.elim (motive_1:=fun _=>Option α) d h f else none
variable {d:AV} {r:α} {C:AV→Prop}
@[elab_as_elim] theorem xI{f}(e:xH d f=some r)(k:∀x,f x=some r→C (.bool x)):C d:=ny (f:=fun h=>AV.bool.elim (motive_1:=fun _=>Option α) d h f) e fun h=>AV.bool.elim (motive_1:=fun d=>∀h,AV.bool.elim (motive_1:=fun _=>Option α) d h f=some r→C d) d h (fun x _=>k x) h
@[elab_as_elim] theorem nG{f}(e:bD d f=some r)(k:∀x,f x=some r→C (.int x)):C d:=ny (f:=fun h=>AV.int.elim (motive_1:=fun _=>Option α) d h f) e fun h=>AV.int.elim (motive_1:=fun d=>∀h,AV.int.elim (motive_1:=fun _=>Option α) d h f=some r→C d) d h (fun x _=>k x) h
@[elab_as_elim] theorem Cm{f}(e:pb d f=some r)(k:∀x,f x=some r→C (.str x)):C d:=ny (f:=fun h=>AV.str.elim (motive_1:=fun _=>Option α) d h f) e fun h=>AV.str.elim (motive_1:=fun d=>∀h,AV.str.elim (motive_1:=fun _=>Option α) d h f=some r→C d) d h (fun x _=>k x) h
@[elab_as_elim] theorem KH{f}(e:kQ d f=some r)(k:∀x,f x=some r→C (.bytes x)):C d:=ny (f:=fun h=>AV.bytes.elim (motive_1:=fun _=>Option α) d h f) e fun h=>AV.bytes.elim (motive_1:=fun d=>∀h,AV.bytes.elim (motive_1:=fun _=>Option α) d h f=some r→C d) d h (fun x _=>k x) h
@[elab_as_elim] theorem nJ{f}(e:my d f=some r)(k:∀x,f x=some r→C (.tup x)):C d:=ny (f:=fun h=>AV.tup.elim (motive_1:=fun _=>Option α) d h f) e fun h=>AV.tup.elim (motive_1:=fun d=>∀h,AV.tup.elim (motive_1:=fun _=>Option α) d h f=some r→C d) d h (fun x _=>k x) h
@[elab_as_elim] theorem xF{f}(e:getL d f=some r)(k:∀x,f x=some r→C (.lst x)):C d:=ny (f:=fun h=>AV.lst.elim (motive_1:=fun _=>Option α) d h f) e fun h=>AV.lst.elim (motive_1:=fun d=>∀h,AV.lst.elim (motive_1:=fun _=>Option α) d h f=some r→C d) d h (fun x _=>k x) h
@[elab_as_elim] theorem aaQ{f}(e:getD d f=some r)(k:∀x,f x=some r→C (.aq x)):C d:=ny (f:=fun h=>AV.aq.elim (motive_1:=fun _=>Option α) d h f) e fun h=>AV.aq.elim (motive_1:=fun d=>∀h,AV.aq.elim (motive_1:=fun _=>Option α) d h f=some r→C d) d h (fun x _=>k x) h
@[elab_as_elim] theorem aaT{f}(e:xG d f=some r)(k:∀c x,f c x=some r→C (.inst c x)):C d:=ny (f:=fun h=>AV.inst.elim (motive_1:=fun _=>Option α) d h f) e fun h=>AV.inst.elim (motive_1:=fun d=>∀h,AV.inst.elim (motive_1:=fun _=>Option α) d h f=some r→C d) d h (fun c x _=>k c x) h
end
section
variable {α β:Type} {C:List α→Prop} {l:List α} {r:β}
noncomputable def hB(l:List α)(f:α→List α→Option β):Option β:=List.casesOn (motive:=fun _=>Option β) l none f
@[elab_as_elim] theorem lI{f}(h:hB l f=some r)(k:∀a t,f a t=some r→C (a::t)):C l:=List.casesOn (motive:=fun l=>hB l f=some r→C l) l ba k h
def jL(l:List α)(f:α→Option β):Option β:=hB l fun a t=>List.casesOn (motive:=fun _=>Option β) t (f a) fun _ _=>none
@[elab_as_elim] theorem DX{f}(h:jL l f=some r)(k:∀a,f a=some r→C [a]):C l:=lI h fun a t=>List.casesOn (motive:=fun t=>List.casesOn (motive:=fun _=>Option β) t (f a) (fun _ _=>none)=some r→C (a::t)) t (k a) fun _ _=>ba
def oC(l:List α)(f:α→α→Option β):Option β:=hB l fun a t=>jL t (f a)
@[elab_as_elim] theorem vV(h:oC l f=some r)(k:∀a b,f a b=some r→C [a,b]):C l:=lI h fun a t h=>DX (C:=fun t=>C (a::t)) h (k a)
def ama(l:List α)(f:α→α→α→Option β):Option β:=hB l fun a t=>oC t (f a)
end
noncomputable abbrev ey:Program:=PySem.Challenge.pw_nu0040_01
abbrev ah(w:World):Model:=model ey w
def LstAt(h:Heap)(a:Addr)(vs:List Value):Prop:=vs.length≤16777216∧∃n,h.get? a=some ⟨.type "list",none,.seq vs.toArray n,#[]⟩
def TupAt(h:Heap)(a:Addr)(vs:List Value):Prop:=vs.length≤16777216∧∃n,h.get? a=some ⟨.type "tuple",none,.seq vs.toArray n,#[]⟩
def cX(h:Heap)(a:Addr)(es:List DictEntry):Prop:=(es.length≤16777216∧(a==sysModules)=false)∧∃n,h.get? a=some ⟨.type "dict",none,.dict es.toArray n,#[]⟩
theorem LstAt.isList(x:LstAt h a vs):h.IsList a vs.toArray:=let⟨_,n,e⟩:=x;⟨_,e,rfl,n,rfl⟩
theorem LstAt.ok(x:LstAt h a vs):(h.get? a).isSome=true:=let⟨_,_,e⟩:=x;by rw[e];rfl
theorem TupAt.ok(x:TupAt h a vs):(h.get? a).isSome=true:=let⟨_,_,e⟩:=x;by rw[e];rfl
theorem cX.ok(x:cX h a es):(h.get? a).isSome=true:=let⟨_,_,e⟩:=x;by rw[e];rfl
theorem LstAt.move(x:LstAt h a vs)(k:∀o,h.get? a=some o→h'.get? a=some o):LstAt h' a vs:=let⟨l,n,e⟩:=x;⟨l,n,k _ e⟩
theorem TupAt.move(x:TupAt h a vs)(k:∀o,h.get? a=some o→h'.get? a=some o):TupAt h' a vs:=let⟨l,n,e⟩:=x;⟨l,n,k _ e⟩
theorem cX.move(x:cX h a es)(k:∀o,h.get? a=some o→h'.get? a=some o):cX h' a es:=let⟨l,n,e⟩:=x;⟨l,n,k _ e⟩
noncomputable def intsOf:List AV→Option (List Int)
 |[]=>some []
 |d::r=>bD d fun i=>aw (intsOf r) fun l=>some (i::l)
def j5(w:World)(d:AV):Int:=d.on 0 (fs:=fun x=>PyData.keyHash w.params x) (fi:=fun i=>(intKind ey w).hash i) (ft:=fun l=>casesOn (motive:=fun _=>Int) (intsOf l) 0 fun is=>tupleKeyHash (intKind ey w) is)
inductive cY {α:Type} (P:α→Prop) (Q:List α→Prop):List α→Prop
 |mk {v vs}:P v→Q vs→cY P Q (v::vs)
inductive kE (x:Int) (P Q:Value→Prop):DictEntry→Prop
 |mk {k v}:P k→Q v→kE x P Q ⟨x,k,v⟩
inductive kF (w:World) (x:Str) (Q:Value→Prop):DictEntry→Prop
 |mk {t v}:Q v→kF w x Q ⟨PyData.keyHash w.params x,.str x t,v⟩
inductive kG (i:Int):Value→Prop|mk (t):kG i (.int i t)
inductive sN (s:Str):Value→Prop|mk (t):s.length≤16777216→sN s (.str s t)
inductive sM (b:List UInt8):Value→Prop|mk (t):b.length≤16777216→sM b (.bytes b.toArray t)
section
variable (h:Heap) (O:Addr→Prop)
inductive IsTup (R:List Value→Prop):Value→Prop|mk {a vs}:¬O a→TupAt h a vs→R vs→IsTup R (.ref a)
inductive iw (R:List Value→Prop):Value→Prop|mk {a vs}:¬O a→LstAt h a vs→R vs→iw R (.ref a)
inductive jS (R:List DictEntry→Prop):Value→Prop|mk {a es}:¬O a→cX h a es→R es→jS R (.ref a)
inductive jn (c:Addr) (R:List DictEntry→Prop):Value→Prop|mk {a dx es}:¬O a→¬O dx→h.get? a=some (instObj c dx)→cX h dx es→R es→jn c R (.ref a)
inductive ma (a b c:Int):Value→Prop|mk {r t u v}:¬O r→IsRange h r a b c t u v→ma a b c (.ref r)
end
section
variable (w:World) (h:Heap) (O:Addr→Prop)
mutual
noncomputable def bk:AV→Value→Prop
 |.none=>fun v=>v=.none
 |.bool b=>fun v=>v=.bool b
 |.int i=>kG i
 |.str s=>sN s
 |.bytes b=>sM b
 |.tup l=>IsTup h O (bW l)
 |.lst l=>iw h O (bW l)
 |.aq l=>jS h O (iy l)
 |.inst c fs=>jn h O c (gA fs)
 |.fV a b c=>ma h O a b c
 |.fn a=>fun v=>v=.ref a
 |.cls a=>fun v=>v=.ref a
noncomputable def bW:List AV→List Value→Prop
 |[]=>fun vs=>vs=[]
 |d::ds=>cY (bk d) (bW ds)
noncomputable def iy:List (AV×AV)→List DictEntry→Prop
 |[]=>fun vs=>vs=[]
 |(k,v)::ds=>cY (kE (j5 w k) (bk k) (bk v)) (iy ds)
noncomputable def gA:List (Str×AV)→List DictEntry→Prop
 |[]=>fun vs=>vs=[]
 |(x,d)::ds=>cY (kF w x (bk d)) (gA ds)
end
abbrev RV(v:Value)(d:AV):Prop:=bk w h O d v
abbrev au(v:List Value)(d:List AV):Prop:=bW w h O d v
abbrev c8(v:List DictEntry)(d:List (AV×AV)):Prop:=iy w h O d v
abbrev eB(v:List DictEntry)(d:List (Str×AV)):Prop:=gA w h O d v
end
section
variable {w:World}
theorem bk.none:RV w h O .none .none:=rfl
theorem bk.bool(b):RV w h O (.bool b) (.bool b):=rfl
theorem bk.int(i t):RV w h O (.int i t) (.int i):=.mk t
theorem bk.str(s t)(n:s.length≤16777216):RV w h O (.str s t) (.str s):=.mk t n
theorem bk.bytes(b:List UInt8)(t)(n:b.length≤16777216):RV w h O (.bytes b.toArray t) (.bytes b):=.mk t n
theorem bk.tup(n:¬O a)(x:TupAt h a vs)(r:au w h O vs l):RV w h O (.ref a) (.tup l):=.mk n x r
theorem bk.lst(n:¬O a)(x:LstAt h a vs)(r:au w h O vs l):RV w h O (.ref a) (.lst l):=.mk n x r
theorem bk.aq(n:¬O a)(x:cX h a es)(r:c8 w h O es l):RV w h O (.ref a) (.aq l):=.mk n x r
theorem bk.inst(n:¬O a)(m:¬O dx)(e:h.get? a=some (instObj c dx))(x:cX h dx es)(r:eB w h O es fs):RV w h O (.ref a) (.inst c fs):=.mk n m e x r
theorem bk.fV(n:¬O r)(x:IsRange h r a b c t u v):RV w h O (.ref r) (.fV a b c):=.mk n x
theorem bk.fn(a):RV w h O (.ref a) (.fn a):=rfl
theorem bk.cls(a):RV w h O (.ref a) (.cls a):=rfl
theorem bW.nil:au w h O [] []:=rfl
theorem bW.cons(a:RV w h O v d)(r:au w h O vs ds):au w h O (v::vs) (d::ds):=.mk a r
theorem iy.nil:c8 w h O [] []:=rfl
theorem iy.cons(a:RV w h O k dk)(b:RV w h O v dv)(r:c8 w h O es ds):c8 w h O (⟨j5 w dk,k,v⟩::es) ((dk,dv)::ds):=.mk (.mk a b) r
theorem gA.nil:eB w h O [] []:=rfl
theorem gA.cons(a:RV w h O v d)(r:eB w h O es ds):eB w h O (⟨PyData.keyHash w.params x,.str x t,v⟩::es) ((x,d)::ds):=.mk (.mk a) r
end
structure Mv (h h':Heap) (O O':Addr→Prop):Prop where
 keep:∀b o,h.get? b=some o→¬O b→h'.get? b=some o
 own:∀b,(h.get? b).isSome=true→¬O b→¬O' b
theorem cY.map(f:∀a,P a→P' a)(g:∀l,Q l→Q' l)(l)(x:cY P Q l):cY P' Q' l:=cY.casesOn (motive:=fun l _=>cY P' Q' l) x fun a b=>.mk (f _ a) (g _ b)
theorem kE.map(f:∀a,P a→P' a)(g:∀l,Q l→Q' l)(l)(z:kE x P Q l):kE x P' Q' l:=kE.casesOn (motive:=fun l _=>kE x P' Q' l) z fun a b=>.mk (f _ a) (g _ b)
theorem kF.map{w:World}(f:∀a,P a→P' a)(l)(z:kF w x P l):kF w x P' l:=kF.casesOn (motive:=fun l _=>kF w x P' l) z fun a=>.mk (f _ a)
section
variable {w:World}
section
variable (k:Mv h h' O O')
include k
theorem IsTup.mv(f:∀l,R l→R' l)(v)(x:IsTup h O R v):IsTup h' O' R' v:=IsTup.casesOn (motive:=fun v _=>IsTup h' O' R' v) x fun n y r=>.mk (k.own _ y.ok n) (y.move fun o e=>k.keep _ o e n) (f _ r)
theorem iw.mv(f:∀l,R l→R' l)(v)(x:iw h O R v):iw h' O' R' v:=iw.casesOn (motive:=fun v _=>iw h' O' R' v) x fun n y r=>.mk (k.own _ y.ok n) (y.move fun o e=>k.keep _ o e n) (f _ r)
theorem jS.mv(f:∀l,R l→R' l)(v)(x:jS h O R v):jS h' O' R' v:=jS.casesOn (motive:=fun v _=>jS h' O' R' v) x fun n y r=>.mk (k.own _ y.ok n) (y.move fun o e=>k.keep _ o e n) (f _ r)
theorem jn.mv(f:∀l,R l→R' l)(v)(x:jn h O c R v):jn h' O' c R' v:=jn.casesOn (motive:=fun v _=>jn h' O' c R' v) x fun n m e y r=>.mk (k.own _ (isSome_of_eq_some e) n) (k.own _ y.ok m) (k.keep _ _ e n) (y.move fun o e=>k.keep _ o e m) (f _ r)
theorem ma.mv(v)(x:ma h O a b c v):ma h' O' a b c v:=ma.casesOn (motive:=fun v _=>ma h' O' a b c v) x fun n y=>.mk (k.own _ (isSome_of_eq_some (show h.get? _=_ from y)) n) (k.keep _ _ y n)
theorem bk.kY(d:AV):∀v,RV w h O v d→RV w h' O' v d:=
 AV.rec (motive_1:=fun d=>∀v,RV w h O v d→RV w h' O' v d) (motive_2:=fun d=>∀v,au w h O v d→au w h' O' v d) (motive_3:=fun d=>∀v,c8 w h O v d→c8 w h' O' v d) (motive_4:=fun d=>∀v,eB w h O v d→eB w h' O' v d)
  (motive_5:=fun p=>∀e,kE (j5 w p.1) (bk w h O p.1) (bk w h O p.2) e→kE (j5 w p.1) (bk w h' O' p.1) (bk w h' O' p.2) e) (motive_6:=fun p=>∀e,kF w p.1 (bk w h O p.2) e→kF w p.1 (bk w h' O' p.2) e)
  (fun _ x=>x) (fun _ _ x=>x) (fun _ _ x=>x) (fun _ _ x=>x) (fun _ _ x=>x) (fun _ ih=>IsTup.mv k ih) (fun _ ih=>iw.mv k ih) (fun _ ih=>jS.mv k ih) (fun _ _ ih=>jn.mv k ih) (fun _ _ _=>ma.mv k) (fun _ _ x=>x) (fun _ _ x=>x)
  (fun _ x=>x) (fun _ _=>cY.map) (fun _ x=>x) (fun _ _=>cY.map) (fun _ x=>x) (fun _ _=>cY.map) (fun _ _=>kE.map) (fun _ _=>kF.map) d
theorem bk.mv(x:RV w h O v d):RV w h' O' v d:=bk.kY k d v x
theorem bW.kY(d:List AV):∀v,au w h O v d→au w h' O' v d:=rec (motive:=fun d=>∀v,au w h O v d→au w h' O' v d) (fun _ x=>x) (fun d _ ih=>cY.map (bk.kY k d) ih) d
theorem bW.mv(x:au w h O v d):au w h' O' v d:=bW.kY k d v x
theorem iy.kY(d:List (AV×AV)):∀v,c8 w h O v d→c8 w h' O' v d:=rec (motive:=fun d=>∀v,c8 w h O v d→c8 w h' O' v d) (fun _ x=>x) (fun d _ ih=>cY.map (kE.map (bk.kY k d.1) (bk.kY k d.2)) ih) d
theorem iy.mv(x:c8 w h O v d):c8 w h' O' v d:=iy.kY k d v x
theorem gA.kY(d:List (Str×AV)):∀v,eB w h O v d→eB w h' O' v d:=rec (motive:=fun d=>∀v,eB w h O v d→eB w h' O' v d) (fun _ x=>x) (fun d _ ih=>cY.map (kF.map (bk.kY k d.2)) ih) d
theorem gA.mv(x:eB w h O v d):eB w h' O' v d:=gA.kY k d v x
end
theorem cY.len{α β:Type}{P:α→Prop}{Q:List α→Prop}{b}{bs:List β}(ih:∀l,Q l→l.length=bs.length)(l)(x:cY P Q l):l.length=(b::bs).length:=cY.casesOn (motive:=fun l _=>l.length=(b::bs).length) x fun _ r=>congrArg Nat.succ (ih _ r)
theorem bW.Dy(d:List AV):∀v,au w h O v d→v.length=d.length:=rec (motive:=fun d=>∀v,au w h O v d→v.length=d.length) (fun _ x=>congrArg List.length x) (fun _ _ ih=>cY.len ih) d
theorem bW.length(x:au w h O v d):v.length=d.length:=bW.Dy d v x
theorem iy.Dy(d:List (AV×AV)):∀v,c8 w h O v d→v.length=d.length:=rec (motive:=fun d=>∀v,c8 w h O v d→v.length=d.length) (fun _ x=>congrArg List.length x) (fun _ _ ih=>cY.len ih) d
theorem iy.length(x:c8 w h O v d):v.length=d.length:=iy.Dy d v x
theorem bW.Sr(r':au w h O lx g8)(d):∀v,au w h O v d→au w h O (v++lx) (d++g8):=
 rec (motive:=fun d=>∀v,au w h O v d→au w h O (v++lx) (d++g8)) (fun v x=>(show v=[]from x)▸r') (fun d ds ih v x=>cY.casesOn (motive:=fun v _=>au w h O (v++lx) (d::ds++g8)) x fun a r=>.mk a (ih _ r)) d
theorem bW.app(x:au w h O vs ds)(r':au w h O lx g8):au w h O (vs++lx) (ds++g8):=bW.Sr r' ds vs x
theorem bW.at:∀{vs:List Value},au w h O vs ds→∀(i:Nat) (d),ds[i]? =some d→∃v,vs[i]? =some v∧RV w h O v d:=by
 induction ds with
 |nil=>exact fun _ _ _ e=>nomatch e
 |cons x ds ih=>
  intro vs r i d e
  cases r with
  |mk a r=>cases i with
   |zero=>exact⟨_,rfl,Option.some.inj e▸a⟩
   |succ i=>exact ih r i d e
theorem Mv.refl:Mv h h O O:=⟨fun _ _ e _=>e,fun _ _ n=>n⟩
theorem Mv.trans(a:Mv h h' O O')(b:Mv h' ux O' QY):Mv h ux O QY:=
 ⟨fun x o e n=>b.keep x o (a.keep x o e n) (a.own x (by rw[e];rfl) n),fun x e n=>by
  obtain⟨o,e⟩:=isSome_iff_exists.mp e
  exact b.own x (by rw[a.keep x o e n];rfl) (a.own x (by rw[e];rfl) n)⟩
end
inductive AC where
 |lst (l:List AV)|aq (l:List (AV×AV))|inst (c:Addr) (fs:List (Str×AV))
noncomputable def AC.av:AC→AV
 |.lst l=>.lst l
 |.aq l=>.aq l
 |.inst c fs=>.inst c fs
def cW(w:World)(h:Heap)(O:Addr→Prop)(p:Addr×Addr):AC→Prop
 |.lst l=>∃vs,LstAt h p.1 vs∧au w h O vs l
 |.aq l=>∃es,cX h p.1 es∧c8 w h O es l
 |.inst c fs=>∃es,h.get? p.1=some (instObj c p.2)∧cX h p.2 es∧eB w h O es fs
def AC.aU(p:Addr×Addr):AC→Addr→Prop
 |.lst _,b=>b=p.1
 |.aq _,b=>b=p.1
 |.inst _ _,b=>b=p.1∨b=p.2
def RC(w:World)(h:Heap)(O:Addr→Prop)(v:Value)(d:AV):Prop:=
 AV.casesOn (motive_1:=fun _=>Prop) d (RV w h O v .none) (fun b=>RV w h O v (.bool b)) (fun b=>RV w h O v (.int b)) (fun b=>RV w h O v (.str b)) (fun b=>RV w h O v (.bytes b)) (fun b=>RV w h O v (.tup b))
  (fun l=>iw h (fun _=>False) (bW w h O l) v) (fun l=>jS h (fun _=>False) (iy w h O l) v) (fun c l=>jn h (fun _=>False) c (gA w h O l) v) (fun a b c=>RV w h O v (.fV a b c)) (fun b=>RV w h O v (.fn b)) (fun b=>RV w h O v (.cls b))
section
variable {w:World}
theorem RC.of(x:RV w h O v d):RC w h O v d:=by
 cases d with
 |lst l=>exact iw.casesOn (motive:=fun v _=>iw h (fun _=>False) (bW w h O l) v) x fun _ y r=>.mk id y r
 |aq l=>exact jS.casesOn (motive:=fun v _=>jS h (fun _=>False) (iy w h O l) v) x fun _ y r=>.mk id y r
 |inst c l=>exact jn.casesOn (motive:=fun v _=>jn h (fun _=>False) c (gA w h O l) v) x fun _ _ e y r=>.mk id id e y r
 |_=>exact x
theorem RC.cell(x:cW w h O p c):RC w h O (.ref p.1) c.av:=by
 cases c with
 |lst l=>exact x.elim fun vs x=>.mk id x.1 x.2
 |aq l=>exact x.elim fun vs x=>.mk id x.1 x.2
 |inst c l=>exact x.elim fun vs x=>.mk id id x.1 x.2.1 x.2.2
theorem RC.none(x:RC w h O v .none):v=.none:=x
theorem RC.bool(x:RC w h O v (.bool b)):v=.bool b:=x
theorem RC.int(x:RC w h O v (.int i)):∃t,v=.int i t:=kG.casesOn (motive:=fun v _=>∃t,v=.int i t) x fun t=>⟨t,rfl⟩
theorem RC.str(x:RC w h O v (.str i)):(∃t,v=.str i t)∧i.length≤16777216:=sN.casesOn (motive:=fun v _=>(∃t,v=.str i t)∧i.length≤16777216) x fun t n=>⟨⟨t,rfl⟩,n⟩
theorem RC.bytes(x:RC w h O v (.bytes b)):(∃t,v=.bytes b.toArray t)∧b.length≤16777216:=sM.casesOn (motive:=fun v _=>(∃t,v=.bytes b.toArray t)∧b.length≤16777216) x fun t n=>⟨⟨t,rfl⟩,n⟩
theorem RC.tup(x:RC w h O v (.tup l)):∃a vs,v=.ref a∧¬O a∧TupAt h a vs∧au w h O vs l:=IsTup.casesOn (motive:=fun v _=>∃a vs,v=.ref a∧¬O a∧TupAt h a vs∧au w h O vs l) x fun n y r=>⟨_,_,rfl,n,y,r⟩
theorem RC.lst(x:RC w h O v (.lst l)):∃a vs,v=.ref a∧LstAt h a vs∧au w h O vs l:=iw.casesOn (motive:=fun v _=>∃a vs,v=.ref a∧LstAt h a vs∧au w h O vs l) x fun _ y r=>⟨_,_,rfl,y,r⟩
theorem RC.aq(x:RC w h O v (.aq l)):∃a es,v=.ref a∧cX h a es∧c8 w h O es l:=jS.casesOn (motive:=fun v _=>∃a es,v=.ref a∧cX h a es∧c8 w h O es l) x fun _ y r=>⟨_,_,rfl,y,r⟩
theorem RC.inst(x:RC w h O v (.inst k fs)):∃a dx es,v=.ref a∧h.get? a=some (instObj k dx)∧cX h dx es∧eB w h O es fs:=jn.casesOn (motive:=fun v _=>∃a dx es,v=.ref a∧h.get? a=some (instObj k dx)∧cX h dx es∧eB w h O es fs) x fun _ _ e y r=>⟨_,_,_,rfl,e,y,r⟩
theorem RC.fV(x:RC w h O v (.fV a b c)):∃r t u z,v=.ref r∧¬O r∧IsRange h r a b c t u z:=ma.casesOn (motive:=fun v _=>∃r t u z,v=.ref r∧¬O r∧IsRange h r a b c t u z) x fun n y=>⟨_,_,_,_,rfl,n,y⟩
end
def Kp(s s':Shared):Prop:=∃h' tk,s'={s with heap:=h',toks:=tk}∧∀b o,s.heap.get? b=some o→h'.get? b=some o
theorem Kp.refl:Kp s s:=⟨s.heap,s.toks,rfl,fun _ _ e=>e⟩
theorem Kp.tok:Kp s {s with toks:=t}:=⟨s.heap,t,rfl,fun _ _ e=>e⟩
theorem Kp.push:Kp s {s with heap:=s.heap.push o,toks:=t}:=⟨_,t,rfl,fun _ _ e=>Heap.get?_push_of_some _ e⟩
theorem Kp.og:Kp s {s with heap:=s.heap.push o}:=⟨_,s.toks,rfl,fun _ _ e=>Heap.get?_push_of_some _ e⟩
theorem Kp.keep(a:Kp s s')(b o)(x:s.heap.get? b=some o):s'.heap.get? b=some o:=
 a.elim fun _ a=>a.elim fun _ a=>a.1▸a.2 b o x
theorem Kp.trans(a:Kp s s')(c:Kp s' ip):Kp s ip:=
 c.imp fun h2 c=>c.imp fun t2 c=>⟨a.elim fun _ a=>a.elim fun _ a=>by rw[c.1,a.1],fun b o x=>c.2 b o (a.keep b o x)⟩
theorem Kp.mv(k:Kp s s'):Mv s.heap s'.heap O O:=⟨fun b o e _=>k.keep b o e,fun _ _ n=>n⟩
theorem dU{h:Heap}:h.get? h.objs.size=none:=by
 cases e:h.get? h.objs.size with
 |none=>rfl
 |some o=>exact absurd (Heap.lt_size e) (lt_irrefl _)
def Fo(w:World)(h₀ h:Heap)(O:Addr→Prop)(v:Value)(c:AC):Prop:=
 ∃p,v=.ref p.1∧(∀b,c.aU p b→h₀.get? b=none)∧cW w h (fun b=>O b∨c.aU p b) p c
def PV(w:World)(O:Addr→Prop)(s:Shared)(d:AV)(v:Value)(s':Shared):Prop:=Kp s s'∧RV w s'.heap O v d
def PF(w:World)(O:Addr→Prop)(s:Shared)(c:AC)(v:Value)(s':Shared):Prop:=Kp s s'∧Fo w s.heap s'.heap O v c
end
section
inductive Qp (u:Unit) where|add|sub|mul|fdiv|mod|band|bor|pow
noncomputable abbrev BO:=Qp ()
inductive Qs (u:Unit) where|eq|ne|lt|le|gt|ge|hM|hN|fQ|kZ
noncomputable abbrev CO:=Qs ()
inductive AX (u:Unit) where|len|bytes|int|abs|max|min|chr|ord|sorted|range|list|tuple|dict|fromBytes|join|get
noncomputable abbrev BI:=AX ()
noncomputable def bn(b:BI):Nat:=AX.casesOn (motive:=fun _=>Nat) b 0 1 2 3 4 5 6 7 8 9 10 11 12 13 14 15
theorem Hl(b:BI):[.len,.bytes,.int,.abs,.max,.min,.chr,.ord,.sorted,.range,.list,.tuple,.dict,.fromBytes,.join,.get].getD (bn b) .len=b:=by cases b<;>rfl
theorem Hk{a b:BI}(h:beq (bn a) (bn b)=true):a=b:=(Hl a).symm.trans (eq_of_beq_eq_true h▸Hl b)
inductive eO where|one (i:Nat)|many (is:List Nat)
mutual
inductive ME where
 |var (i:Nat)
 |glob (x:Str) (d:AV)
 |con (d:AV)
 |bin (o:BO) (a b:ME)
 |neg (a:ME)
 |nt (a:ME)
 |cmp (o:CO) (a b:ME)
 |gb (o p:CO) (a b c:ME)
 |cv (aof:Bool) (l:aR)
 |dj (c a b:ME)
 |tup (l:aR)
 |lst (l:aR)
 |aq (l:aR)
 |attr (e:ME) (x:Str)
 |sub (e i:ME)
 |fW (e:ME) (lo hi:MO)
 |comp (k:Nat) (t:eO) (iter:ME) (cond:MO) (elt:ME)
 |call (x:Str) (f:Addr) (l:aR)
 |cz (x:Str) (f:Addr) (i:Nat) (l:aR)
 |aO (o:ME) (x:Str) (l:aR)
 |blt (b:BI) (l:aR)
 |bm (b:BI) (o:ME) (l:aR)
inductive aR where
 |nil|cons (e:ME) (r:aR)|new (r:aR)
inductive MO where
 |no|yes (e:ME)
end
mutual
inductive MS where
 |asg (i:Nat) (own:Bool) (e:ME)
 |eZ (rev:Bool) (is:List Nat) (es:aR)
 |fK (is:List Nat) (e:ME)
 |aV (i:Nat) (x:Str) (e:ME)
 |fF (i:Nat) (k e:ME)
 |app (i:Nat) (e:ME)
 |drop (e:ME)
 |ret (e:ME)
 |iff (c:ME) (a b:ai)
 |gw (c:ME) (b:ai)
 |bz (t:eO) (e:ME) (b:ai)
 |stop
inductive ai where
 |nil|cons (x:MS) (r:ai)
end
inductive Res where
 |val (d:AV)|fresh (c:AC)|loc (i:Nat)
inductive Slot where
 |no|val (d:AV)|own (c:AC)
noncomputable def Slot.ctorIdx(s:Slot):Nat:=Slot.casesOn (motive:=fun _=>Nat) s 0 (fun _=>1) fun _=>2
theorem Slot.so(h:Slot.own a=.own b):a=b:=by cases h;rfl
theorem Slot.sv(h:Slot.val a=.val b):a=b:=by cases h;rfl
noncomputable abbrev St:=List Slot
noncomputable def ak{α β:Type}(x:Option (α×St))(f:α→St→Option β):Option β:=match x with
 |some (a,st)=>f a st
 |none=>none
theorem aN{α β:Type}{x:Option (α×St)}{f:α→St→Option β}{b:β}{G:Prop}(e:ak x f=some b)(k:∀a st,x=some (a,st)→f a st=some b→G):G:=
 casesOn (motive:=fun x'=>x=x'→ak x' f=some b→G) x (fun _ e=>Option.noConfusion rfl (heq_of_eq e)) (fun p q e=>k p.1 p.2 q e) rfl e
noncomputable def lim:Nat:=16777216
noncomputable def lL(d:AV):Res:=d.on (.val d) (fl:=fun l=>.fresh (.lst l)) (fd:=fun l=>.fresh (.aq l)) (fb:=fun _=>.val d)
noncomputable def j0(f:AV→AV→Option Bool):List AV→List AV→Option Bool
 |[]=>fun b=>sw b.isEmpty (some true) none
 |a::as=>fun b=>hB b fun b bs=>aw (f a b) fun x=>aw (j0 f as bs) fun y=>some (x&&y)
noncomputable def eS:Nat→AV→AV→Option Bool
 |0=>fun _ _=>none
 |n+1=>fun a b=>a.on none (fi:=fun x=>bD b fun y=>some (x==y)) (fb:=fun x=>xH b fun y=>some (x==y)) (fs:=fun x=>pb b fun y=>some (x==y))
  (fl:=fun x=>getL b fun y=>sw (x.length==y.length) (j0 (eS n) x y) (some false)) (ft:=fun x=>my b fun y=>aJ (x.length==y.length) (j0 (eS n) x y))
noncomputable def bI(b:AV)(f:Int→Bool):Bool:=if h:b.ctorIdx=2 then AV.int.elim (motive_1:=fun _=>Bool) b h f else false
noncomputable def bS(b:AV)(f:Str→Bool):Bool:=if h:b.ctorIdx=3 then AV.str.elim (motive_1:=fun _=>Bool) b h f else false
noncomputable def bT(b:AV)(f:List AV→Bool):Bool:=if h:b.ctorIdx=5 then AV.tup.elim (motive_1:=fun _=>Bool) b h f else false
def jH(a b:AV):Bool:=a.on false (fi:=fun x=>bI b fun y=>x==y) (fs:=fun x=>bS b fun y=>x==y) (ft:=fun x=>bT b fun y=>intsOf x==intsOf y)
def keyOk(a:AV):Bool:=a.on false (fi:=fun _=>true) (fs:=fun _=>true) (ft:=fun l=>(intsOf l).isSome&&ble l.length 16)
noncomputable def kind(a:AV):Nat:=a.on 0 (fi:=fun _=>1) (fs:=fun _=>2) (ft:=fun _=>3)
noncomputable def cQ(l:List (AV×AV))(k:AV):Option AV:=match l with
 |[]=>none
 |p::r=>sw (jH p.1 k) (some p.2) (cQ r k)
theorem IE(p:AV×AV)(r)(k):cQ (p::r) k=sw (jH p.1 k) (some p.2) (cQ r k):=rfl
noncomputable def dh(l:List (AV×AV))(k v:AV):List (AV×AV):=match l with
 |[]=>[(k,v)]
 |p::r=>sw (jH p.1 k) ((p.1,v)::r) (p::dh r k v)
theorem BE(p:AV×AV)(r)(k v):dh (p::r) k v=sw (jH p.1 k) ((p.1,v)::r) (p::dh r k v):=rfl
noncomputable def jU:List (AV×AV)→Bool
 |[]=>true
 |p::r=>r.all (fun q=> !jH p.1 q.1)&&jU r
def c9(l:List (AV×AV))(k:AV):Bool:=keyOk k&&l.all (fun p=>kind p.1==kind k&&keyOk p.1)&&jU l&&ble l.length 1000
noncomputable def oQ(x:AV):List AV→Option Bool
 |[]=>some false
 |a::r=>aw (eS 8 a x) fun p=>aw (oQ x r) fun q=>some (p||q)
def x9(x d:AV):Option Bool:=d.on none (fl:=fun l=>oQ x l) (ft:=fun l=>aw (intsOf l) fun is=>bD x fun i=>some (is.contains i)) (fd:=fun l=>aJ (c9 l x) (some (cQ l x).isSome))
noncomputable def lD(d:AV):Bool:=d.on false (fl:=fun _=>true) (fd:=fun _=>true) (fn:=fun _ _=>true)
noncomputable def pk(d:AV):Bool:=beq d.ctorIdx 0
def eqT(a b:AV):Option Bool:=if h:a.ctorIdx=4 then AV.bytes.elim (motive_1:=fun _=>Option Bool) a h fun a=>kQ b fun b=>some (a==b)else eS 8 a b
def MC(a b:AV):Option Bool:=a.on none (fi:=fun a=>bD b fun b=>some (decide (a<b))) (ft:=fun a=>my b fun b=>oC a fun a1 a2=>oC b fun b1 b2=>bD a1 fun a1=>bD a2 fun a2=>bD b1 fun b1=>bD b2 fun b2=>some (if a1=b1 then decide (a2<b2)else decide (a1<b1)))
def bh:CO→AV→AV→Option Bool
 |.hM=>fun d z=>aJ (pk z) (some (pk d))
 |.hN=>fun d z=>aJ (pk z) (some (!pk d))
 |.eq=>fun a b=>eqT a b
 |.ne=>fun a b=>aw (eqT a b) fun x=>some (!x)
 |.lt=>fun a b=>MC a b
 |.le=>fun a b=>bD a fun a=>bD b fun b=>some (decide (a≤b))
 |.gt=>fun a b=>bD a fun a=>bD b fun b=>some (decide (b<a))
 |.ge=>fun a b=>bD a fun a=>bD b fun b=>some (decide (b≤a))
 |.fQ=>fun x d=>sw (lD x) none (x9 x d)
 |.kZ=>fun x d=>sw (lD x) none (aw (x9 x d) fun x=>some (!x))
noncomputable def eJ(i:Int):Bool:=ble i.natAbs 1099511627776
theorem EA(h:eJ i=true): -1099511627776≤i∧i≤1099511627776:=
 have h2:=ofNat_le.mpr (le_of_ble_eq_true h)
 ⟨Int.neg_le_of_neg_le (Int.le_trans (Int.natAbs_neg i▸Int.le_natAbs) h2),Int.le_trans Int.le_natAbs h2⟩
noncomputable def r9{α:Type}(n:Nat)(l:List α):List α:=(replicate n l).flatten
def FI(x y:AV):Option AV:=x.on none (fi:=fun a=>bD y fun b=>some (.int (a+b)))
 (fy:=fun a=>kQ y fun b=>aJ (decide (a.length+b.length≤lim)) (some (.bytes (a++b)))) (fs:=fun a=>pb y fun b=>aJ (decide (a.length+b.length≤lim)) (some (.str (a++b))))
 (fl:=fun a=>getL y fun b=>aJ (decide (a.length+b.length≤lim)) (some (.lst (a++b))))
 (ft:=fun a=>my y fun b=>sw a.isEmpty (some (.tup b)) (aJ (decide (b.length≤1000∧a.length≤1000∧b.isEmpty=false)) (some (.tup (a++b)))))
def Ni(x y:AV):Option AV:=bD y fun n=>x.on none (fi:=fun a=>aJ (eJ a||eJ n) (some (.int (a*n))))
 (fl:=fun a=>aJ (decide (0≤n∧n≤1048576∧a.length*n.toNat≤lim)) (some (.lst (r9 n.toNat a)))) (fy:=fun a=>aJ (decide (0≤n∧n≤1048576∧a.length≤16∧a.isEmpty=false)) (some (.bytes (r9 n.toNat a)))) (fs:=fun _=>aJ (decide (n=0)) (some (.str ⟨#[]⟩)))
def fZ:BO→AV→AV→Option AV
 |.add=>fun x y=>FI x y
 |.sub=>fun x y=>bD x fun a=>bD y fun b=>some (.int (a-b))
 |.mul=>fun x y=>Ni x y
 |.fdiv=>fun x y=>bD x fun a=>bD y fun b=>aJ (decide (b≠0)&&eJ b) (some (.int (a.fdiv b)))
 |.mod=>fun x y=>bD x fun a=>bD y fun b=>aJ (decide (b≠0)) (some (.int (a.fmod b)))
 |.band=>fun x y=>bD x fun a=>bD y fun b=>some (.int (Builtin.bitAnd a b))
 |.bor=>fun x y=>bD x fun a=>bD y fun b=>some (.int (Builtin.bitOr a b))
 |.pow=>fun x y=>bD x fun a=>bD y fun b=>aJ (decide (a=10∧b=18)) (some (.int 1000000000000000000))
def idx(n:Nat)(i:Int):Option Nat:=sw (decide (0≤i)) (aJ (decide (i<n)) (some i.toNat)) (aJ (decide (0≤i+n)) (some (i+n).toNat))
def bt(d k:AV):Option AV:=d.on none (fy:=fun b=>bD k fun i=>aJ (decide (0≤i∧i<b.length)) (some (.int (b.getD i.toNat 0).toNat))) (fl:=fun l=>bD k fun i=>aw (idx l.length i) fun j=>l[j]?) (ft:=fun l=>bD k fun i=>aw (idx l.length i) fun j=>l[j]?)
 (fd:=fun l=>aJ (c9 l k) (cQ l k))
noncomputable def cut(n:Nat)(i:Int):Nat:=if 0≤i then min i.toNat n else(i+n).toNat
def part{α:Type}(l:List α)(lo hi:Option Int):List α:=
 let a:=match lo with|some i=>cut l.length i|none=>0
 let b:=match hi with|some i=>cut l.length i|none=>l.length
 (l.take b).drop a
def lY(d:AV)(lo hi:Option Int):Option AV:=d.on none (fy:=fun b=>some (.bytes (part b lo hi))) (fl:=fun b=>some (.lst (part b lo hi)))
 (ft:=fun l=>aw hi fun k=>aJ (lo.isNone&&decide (0≤k∧k<l.length)) (some (.tup (l.take k.toNat))))
noncomputable def mw(fs:List (Str×AV))(x:Str):Option AV:=match fs with
 |[]=>none
 |p::r=>sw (p.1==x) (some p.2) (mw r x)
theorem ZW(p:Str×AV)(r)(x):mw (p::r) x=sw (p.1==x) (some p.2) (mw r x):=rfl
noncomputable def nE(fs:List (Str×AV))(x:Str)(v:AV):List (Str×AV):=match fs with
 |[]=>[(x,v)]
 |p::r=>sw (p.1==x) ((p.1,v)::r) (p::nE r x v)
theorem aaM(p:Str×AV)(r)(x)(v):nE (p::r) x v=sw (p.1==x) ((p.1,v)::r) (p::nE r x v):=rfl
noncomputable def ij(a b c:Int):List AV:=(List.range (if 0<c then((b-a+c-1).fdiv c).toNat else 0)).map fun(i:Nat)=>.int (a+c*(i:Int))
def gJ(d:AV):Option (List AV):=d.on none (fl:=fun l=>some l) (ft:=fun l=>some l) (fy:=fun b=>some (b.map fun x=>.int x.toNat)) (fs:=fun s=>aJ (s.cps.all (· <128)) (some (s.cps.toList.map fun c=>.str ⟨#[c]⟩)))
 (fr:=fun a b c=>aJ (decide (0<c)&&eJ a&&eJ b&&eJ c) (some (ij a b c))) (fd:=fun l=>aJ (l.all (fun p=>kind p.1==1)&&jU l) (some (l.map (·.1))))
noncomputable def mH{α:Type}(lt:α→α→Bool)(x:α):List α→List α
 |[]=>[x]
 |y::r=>if lt x y then x::y::r else y::mH lt x r
theorem Lv(lt:α→α→Bool)(x y:α)(r):mH lt x (y::r)=if lt x y then x::y::r else y::mH lt x r:=rfl
def sortBy{α:Type}(lt:α→α→Bool)(l:List α):List α:=l.foldl (fun a x=>mH lt x a) []
noncomputable def strsOf:List AV→Option (List Str)
 |[]=>some []
 |d::r=>pb d fun i=>aw (strsOf r) fun l=>some (i::l)
noncomputable def ltNats:List Nat→List Nat→Bool
 |[],[]=>false
 |[],_::_=>true
 |_::_,[]=>false
 |a::as,b::bs=>if a=b then ltNats as bs else decide (a<b)
def Pe(l:List AV):Option (List AV):=oC l fun x y=>my x fun xs=>my y fun ys=>hB xs fun a x=>hB ys fun b y=>bD a fun a=>bD b fun b=>
 aJ ((intsOf x).isSome&&(intsOf y).isSome&&decide (a≠b)) (some (if b<a then [.tup (.int b::y),.tup (.int a::x)]else [.tup (.int a::x),.tup (.int b::y)]))
def oz(l:List AV):Option (List AV):=
 if l.length≤1 then some l else if l.length<64 then(match intsOf l with
  |some is=>some ((sortBy (fun a b=>decide (a<b)) is).map .int)
  |none=>match strsOf l with
   |some ss=>some ((sortBy (fun a b=>ltNats a.cps.toList b.cps.toList) ss).map .str)
   |none=>Pe l)else none
noncomputable def jK:List AV→Option (List UInt8)
 |[]=>some []
 |d::r=>bD d fun i=>aJ (decide (0≤i∧i<256)) (aw (jK r) fun l=>some (UInt8.ofNat i.toNat::l))
noncomputable def bytesOf:List AV→Option (List (List UInt8))
 |[]=>some []
 |d::r=>kQ d fun b=>aw (bytesOf r) fun l=>some (b::l)
noncomputable def qk:List UInt8→Int→Int
 |[],a=>a
 |x::r,a=>qk r (a*256+x.toNat)
noncomputable def pairsOf:List AV→Option (List (AV×AV))
 |[]=>some []
 |d::r=>my d fun t=>oC t fun k v=>aw (pairsOf r) fun l=>some ((k,v)::l)
noncomputable def Cg(ps:List (AV×AV))(m:List (AV×AV)):Option (List (AV×AV)):=match ps with
 |[]=>some m
 |p::r=>aJ (c9 m p.1&&kind p.1==3) (Cg r (dh m p.1 p.2))
def I5(f:Int→Int→Int)(ds:List AV):Option AV:=hB ds fun x t=>List.casesOn (motive:=fun _=>Option AV) t (getL x fun l=>aw (intsOf l) fun is=>hB is fun a r=>some (.int (r.foldl f a)))
 fun y t=>aJ t.isEmpty (bD x fun a=>bD y fun b=>some (.int (f a b)))
def ajw(ds:List AV):Option AV:=hB ds fun x t=>bD x fun a=>List.casesOn (motive:=fun _=>Option AV) t (some (.fV 0 a 1)) fun y t=>bD y fun b=>List.casesOn (motive:=fun _=>Option AV) t (some (.fV a b 1)) fun z t=>bD z fun c=>
 aJ (t.isEmpty&&decide (0<c)&&eJ c) (some (.fV a b c))
def aW:BI→List AV→Option AV
 |.len=>fun ds=>jL ds fun d=>d.on none (fy:=fun b=>some (.int b.length)) (fs:=fun b=>some (.int b.length)) (fl:=fun b=>some (.int b.length)) (ft:=fun b=>some (.int b.length))
 |.bytes=>fun ds=>jL ds fun d=>d.on none (fi:=fun n=>aJ (decide (0≤n∧n≤lim)) (some (.bytes (replicate n.toNat 0)))) (fy:=fun b=>some (.bytes b)) (fl:=fun l=>aw (jK l) fun b=>some (.bytes b))
 |.int=>fun ds=>jL ds fun d=>d.on none (fi:=fun i=>some (.int i)) (fb:=fun b=>some (.int (if b then 1 else 0)))
 |.abs=>fun ds=>jL ds fun d=>bD d fun i=>some (.int (if i<0 then -i else i))
 |.max=>I5 fun a b=>if a<b then b else a
 |.min=>I5 fun a b=>if b<a then b else a
 |.chr=>fun ds=>jL ds fun d=>bD d fun i=>aJ (decide (0≤i∧i<128)) (some (.str ⟨#[i.toNat]⟩))
 |.ord=>fun ds=>jL ds fun d=>pb d fun s=>jL s.cps.toList fun c=>some (.int c)
 |.sorted=>fun ds=>jL ds fun d=>d.on none (fl:=fun l=>aw (oz l) fun l=>some (.lst l)) (fd:=fun l=>aw (oz (l.map (·.1))) fun l=>some (.lst l))
 |.range=>ajw
 |.list=>fun ds=>jL ds fun d=>getL d fun l=>some (.lst l)
 |.tuple=>fun _=>none
 |.dict=>fun ds=>jL ds fun d=>getL d fun l=>aw (pairsOf l) fun ps=>aw (Cg ps []) fun m=>some (.aq m)
 |.fromBytes=>fun ds=>oC ds fun b s=>kQ b fun b=>pb s fun s=>aJ (s=="big"&&decide (b.length≤8)) (some (.int (qk b 0)))
 |.join=>fun ds=>oC ds fun b l=>kQ b fun b=>getL l fun l=>aJ b.isEmpty (aw (bytesOf l) fun bs=>aJ (decide (bs.flatten.length≤lim)) (some (.bytes bs.flatten)))
 |.get=>fun ds=>ama ds fun m k d=>getD m fun l=>aJ (c9 l k&& !lD ((cQ l k).getD d)&& !lD d) (some ((cQ l k).getD d))
noncomputable def St.get(st:St)(i:Nat):Slot:=st.getD i .no
noncomputable def nX(s:Slot):Option AV:=match s with
 |.own c=>some c.av
 |_=>none
def look(st:St):Res→Option AV
 |.val d=>some d
 |.fresh c=>some c.av
 |.loc i=>nX (st.get i)
noncomputable def Dm(i:Nat)(st:St):Slot→Option (AV×St)
 |.own c=>some (c.av,st.set i (.val c.av))
 |_=>none
def freeze(st:St):Res→Option (AV×St)
 |.val d=>some (d,st)
 |.fresh c=>some (c.av,st)
 |.loc i=>Dm i st (st.get i)
def yn(st:St)(i j:Nat):Slot→Option St
 |.own c=>aJ (Nat.blt i st.length) (some ((st.set j (.val c.av)).set i (.val c.av)))
 |_=>none
def put(st:St)(i:Nat)(own:Bool):Res→Option St
 |.val d=>aJ (Nat.blt i st.length) (some (st.set i (.val d)))
 |.fresh c=>sw own (aJ (Nat.blt i st.length&& !beq i 0) (some (st.set i (.own c)))) (aJ (Nat.blt i st.length) (some (st.set i (.val c.av))))
 |.loc j=>yn st i j (st.get j)
noncomputable def oh:List Nat→List AV→St→Option St
 |[]=>fun l st=>match l with
  |[]=>some st
  |_=>none
 |i::is=>fun l st=>match l with
  |[]=>none
  |d::ds=>aw (put st i false (.val d)) fun st=>oh is ds st
def lC(st:St)(t:eO)(d:AV):Option St:=match t with
 |.one i=>put st i false (.val d)
 |.many is=>my d fun l=>oh is l st
noncomputable abbrev cf:=Addr→Option AC→List AV→Option (Res×Option AC)
structure Tab where
 chg:Addr→Bool
 uF:Addr→Str→Option Addr
 nf:Addr→Str→Bool
noncomputable def wV(b:BI)(d:AV):Bool:=AX.casesOn (motive:=fun _=>Bool) b false false false false false false false false false false false false false false (beq d.ctorIdx 4) (beq d.ctorIdx 7)
def aQ(T:Tab)(d:AV)(x:Str):Option AV:=xG d fun c fs=>aJ (T.nf c x) (mw fs x)
def bw(T:Tab)(d:AV)(x:Str):Option Addr:=xG d fun c fs=>aJ (mw fs x).isNone (T.uF c x)
noncomputable def bJ:Res→Res
 |.val d=>.val d
 |.fresh c=>.val c.av
 |.loc i=>.loc i
def ju(x:Option (Res×St)):Option (Res×St):=ak x fun r st=>some (bJ r,st)
def kFz(r:Res)(st:St):Option (AV×St):=freeze st r
def iH(x:Option (Res×St)):Option (AV×St):=ak x kFz
def Dt:Res→St→Option (Bool×St)
 |.val d=>fun st=>xH d fun b=>some (b,st)
 |_=>fun _=>none
def eK(x:Option (Res×St)):Option (Bool×St):=ak x Dt
def Dn:Res→St→Option (Int×St)
 |.val d=>fun st=>bD d fun b=>some (b,st)
 |_=>fun _=>none
def mI(x:Option (Res×St)):Option (Int×St):=ak x Dn
noncomputable def jc(st:St):List Res→Option (List AV)
 |[]=>some []
 |r::rs=>aw (look st r) fun d=>aw (jc st rs) fun ds=>some (d::ds)
noncomputable def dS(f:AV→List AV→St→Option (List AV×St)):List AV→List AV→St→Option (List AV×St)
 |[]=>fun acc st=>some (acc,st)
 |x::r=>fun acc st=>ak (f x acc st) fun acc st=>dS f r acc st
abbrev iv:=St→Option (Res×St)
section
variable {β:Type}
noncomputable def eV(s:Slot)(f:AC→Option β):Option β:=match s with
 |.own c=>f c
 |_=>none
noncomputable def oP(c:AC)(f:List AV→Option β):Option β:=match c with
 |.lst l=>f l
 |_=>none
noncomputable def sW(c:AC)(f:Addr→List (Str×AV)→Option β):Option β:=match c with
 |.inst a l=>f a l
 |_=>none
theorem lN{s:Slot}{f:AC→Option β}{r:β}{G:Prop}(e:eV s f=some r)(k:∀c,s=.own c→f c=some r→G):G:=by
 cases s with
 |own c=>exact k c rfl e
 |_=>exact ba e
@[elab_as_elim] theorem FF{c:AC}{f:List AV→Option β}{r:β}{C:AC→Prop}(e:oP c f=some r)(k:∀l,f l=some r→C (.lst l)):C c:=by
 cases c with
 |lst c=>exact k c e
 |_=>exact ba e
@[elab_as_elim] theorem Sh{c:AC}{f:Addr→List (Str×AV)→Option β}{r:β}{C:AC→Prop}(e:sW c f=some r)(k:∀a l,f a l=some r→C (.inst a l)):C c:=by
 cases c with
 |inst a l=>exact k a l e
 |_=>exact ba e
def L8(a b:St→Option β)(d:Bool)(st:St):Option β:=sw d (a st) (b st)
end
noncomputable def yu(i:Nat)(st:St):Slot→Option (Res×St)
 |.no=>none
 |.val d=>some (.val d,st)
 |.own _=>some (.loc i,st)
def acV(o:BO)(ra rb:Res)(st:St):Option (Res×St):=aw (look st ra) fun x=>aw (look st rb) fun y=>aw (fZ o x y) fun d=>some (lL d,st)
def acU(o:BO)(b:iv)(ra:Res)(st:St):Option (Res×St):=ak (ju (b st)) (acV o ra)
def adi(o:CO)(ra rb:Res)(st:St):Option (Res×St):=aw (look st ra) fun x=>aw (look st rb) fun y=>aw (bh o x y) fun d=>some (.val (.bool d),st)
def adh(o:CO)(b:iv)(ra:Res)(st:St):Option (Res×St):=ak (ju (b st)) (adi o ra)
noncomputable def adS(l:List AV)(st:St):Option (Res×St):=some (.val (.tup l),st)
noncomputable def adw(l:List AV)(st:St):Option (Res×St):=some (.fresh (.lst l),st)
noncomputable def adm(l:List (AV×AV))(st:St):Option (Res×St):=some (.fresh (.aq l),st)
def acT(T:Tab)(x:Str)(r:Res)(st:St):Option (Res×St):=aw (look st r) fun d=>aw (aQ T d x) fun v=>some (.val v,st)
def adR(r ri:Res)(st:St):Option (Res×St):=aw (look st r) fun d=>aw (look st ri) fun k=>aw (bt d k) fun v=>some (.val v,st)
def adQ(i:iv)(r:Res)(st:St):Option (Res×St):=ak (ju (i st)) (adR r)
def adP(r:Res)(l h:Option Int)(st:St):Option (Res×St):=aw (look st r) fun d=>aw (lY d l h) fun v=>some (lL v,st)
def adO(hi:St→Option (Option Int×St))(r:Res)(l:Option Int)(st:St):Option (Res×St):=ak (hi st) (adP r l)
def adN(lo hi:St→Option (Option Int×St))(r:Res)(st:St):Option (Res×St):=ak (lo st) (adO hi r)
noncomputable def L1(st:St)(x:Option (Res×Option AC)):Option (Res×St):=match x with
 |some (.val d,none)=>some (.val d,st)
 |some (.fresh c,none)=>some (.fresh c,st)
 |_=>none
def yj(S:cf)(f:Addr)(vs:List AV)(st:St):Option (Res×St):=L1 st (S f none vs)
noncomputable def kM(i:Nat)(st:St)(x:Option (Res×Option AC)):Option (Res×St):=match x with
 |some (.val d,some c')=>some (.val d,st.set i (.own c'))
 |some (.fresh e,some c')=>some (.fresh e,st.set i (.own c'))
 |_=>none
def yi(S:cf)(f:Addr)(i:Nat)(vs:List AV)(st:St):Option (Res×St):=eV (st.get i) fun c=>kM i st (S f (some c) vs)
def ada(S:cf)(f:Addr)(i:Nat)(el:St→Option (List AV×St))(st:St):Option (Res×St):=eV (st.get i) fun _=>ak (el st) (yi S f i)
def Md(S:cf)(f:Addr)(r:Res)(vs:List AV)(st:St):Option (Res×St):=match r with
 |.loc i=>yi S f i vs st
 |.val d=>yj S f (d::vs) st
 |.fresh _=>none
def ady(S:cf)(el:St→Option (List AV×St))(r:Res)(st:St)(f:Addr):Option (Res×St):=ak (el st) (Md S f r)
def adx(T:Tab)(S:cf)(x:Str)(el:St→Option (List AV×St))(r:Res)(st:St):Option (Res×St):=aw (look st r) fun d=>aw (bw T d x) (ady S el r st)
def acW(b:BI)(rs:List Res)(st:St):Option (Res×St):=aw (jc st rs) fun ds=>aw (aW b ds) fun d=>some (lL d,st)
def acY(b:BI)(r:Res)(rs:List Res)(st:St):Option (Res×St):=aw (look st r) fun d0=>aw (jc st rs) fun ds=>aw (aW b (d0::ds)) fun d=>some (lL d,st)
def acX(b:BI)(el:St→Option (List Res×St))(r:Res)(st:St):Option (Res×St):=aw (look st r) fun x=>aJ (wV b x) (ak (el st) (acY b r))
noncomputable def ads(d:AV)(ds:List AV)(st:St):Option (List AV×St):=some (d::ds,st)
def adq(r:St→Option (List AV×St))(d:AV)(st:St):Option (List AV×St):=ak (r st) (ads d)
noncomputable def adp(d:Res)(ds:List Res)(st:St):Option (List Res×St):=some (d::ds,st)
def ado(r:St→Option (List Res×St))(d:Res)(st:St):Option (List Res×St):=ak (r st) (adp d)
def kT(k:Bool)(r:St→Option (Bool×St))(b:Bool)(st:St):Option (Bool×St):=sw (b==k) (r st) (some (b,st))
noncomputable def acZ(b:Bool)(st:St):Option (Res×St):=some (.val (.bool b),st)
noncomputable def adA(i:Int)(st:St):Option (Res×St):=some (.val (.int (-i)),st)
noncomputable def adB(b:Bool)(st:St):Option (Res×St):=some (.val (.bool (!b)),st)
def kD2(r:List (AV×AV)→St→Option (List (AV×AV)×St))(acc:List (AV×AV))(x:Int)(y:AV)(st:St):Option (List (AV×AV)×St):=aJ (c9 acc (.int x)) (r (dh acc (.int x) y) st)
def kD1(v:iv)(r:List (AV×AV)→St→Option (List (AV×AV)×St))(acc:List (AV×AV))(x:Int)(st:St):Option (List (AV×AV)×St):=ak (iH (v st)) (kD2 r acc x)
noncomputable def kO(i:Int)(st:St):Option (Option Int×St):=some (some i,st)
def adf(p:CO)(y z:Int)(st:St):Option (Res×St):=aw (bh p (.int y) (.int z)) fun d=>some (.val (.bool d),st)
def adg(p:CO)(c:iv)(y:Int)(st:St)(d:Bool):Option (Res×St):=sw d (ak (mI (c st)) (adf p y)) (some (.val (.bool false),st))
def ade(o p:CO)(c:iv)(x y:Int)(st:St):Option (Res×St):=aw (bh o (.int x) (.int y)) (adg p c y st)
def adb(o p:CO)(b c:iv)(x:Int)(st:St):Option (Res×St):=ak (mI (b st)) (ade o p c x)
def yf(acc:List AV)(v:AV)(st:St):Option (List AV×St):=aJ (decide (acc.length<lim)) (some (acc++[v],st))
def mK(e:iv)(acc:List AV)(b:Bool)(st:St):Option (List AV×St):=sw b (ak (iH (e st)) (yf acc)) (some (acc,st))
def Dj(c:St→Option (Bool×St))(e:iv)(acc:List AV)(st:St):Option (List AV×St):=ak (c st) (mK e acc)
def gL(t:eO)(c:St→Option (Bool×St))(e:iv)(x:AV)(acc:List AV)(st:St):Option (List AV×St):=aw (lC st t x) (Dj c e acc)
noncomputable def kCo(n:Nat)(acc:List AV)(af:St):Option (Res×St):=some (.fresh (.lst acc),af.take n)
def kC(k:Nat)(t:eO)(c:St→Option (Bool×St))(e:iv)(n:Nat)(st:St)(l:List AV):Option (Res×St):=ak (dS (gL t c e) l [] (st++replicate k .no)) (kCo n)
def kC0(k:Nat)(t:eO)(c:St→Option (Bool×St))(e:iv)(n:Nat)(d:AV)(st:St):Option (Res×St):=aw (gJ d) (kC k t c e n st)
section
variable (T:Tab) (S:cf)
mutual
noncomputable def ev:ME→St→Option (Res×St)
 |.var i=>fun st=>yu i st (st.get i)
 |.glob _ d=>fun st=>some (.val d,st)
 |.con d=>fun st=>some (.val d,st)
 |.bin o a b=>fun st=>ak (ju (ev a st)) (acU o (ev b))
 |.neg a=>fun st=>ak (mI (ev a st)) adA
 |.nt a=>fun st=>ak (eK (ev a st)) adB
 |.cmp o a b=>fun st=>ak (ju (ev a st)) (adh o (ev b))
 |.gb o p a b c=>fun st=>ak (mI (ev a st)) (adb o p (ev b) (ev c))
 |.cv k l=>fun st=>ak (tO k l st) acZ
 |.dj c a b=>fun st=>ak (eK (ev c st)) (L8 (ev a) (ev b))
 |.tup l=>fun st=>ak (mu l st) adS
 |.lst l=>fun st=>ak (mu l st) adw
 |.aq l=>fun st=>ak (tK l [] st) adm
 |.attr e x=>fun st=>ak (ju (ev e st)) (acT T x)
 |.sub e i=>fun st=>ak (ju (ev e st)) (adQ (ev i))
 |.fW e lo hi=>fun st=>ak (ju (ev e st)) (adN (xn lo) (xn hi))
 |.comp k t iter cond elt=>fun st=>ak (iH (ev iter st)) (kC0 k t (fL cond) (ev elt) st.length)
 |.call _ f l=>fun st=>ak (mu l st) (yj S f)
 |.cz _ f i l=>fun st=>ada S f i (mu l) st
 |.aO o x l=>fun st=>ak (ju (ev o st)) (adx T S x (mu l))
 |.blt b l=>fun st=>ak (tN l st) (acW b)
 |.bm b o l=>fun st=>ak (ju (ev o st)) (acX b (tN l))
noncomputable def mu:aR→St→Option (List AV×St)
 |.nil=>fun st=>some ([],st)
 |.cons e r=>fun st=>ak (iH (ev e st)) (adq (mu r))
 |.new _=>fun _=>none
noncomputable def tN:aR→St→Option (List Res×St)
 |.nil=>fun st=>some ([],st)
 |.cons e r=>fun st=>ak (ju (ev e st)) (ado (tN r))
 |.new _=>fun _=>none
noncomputable def tO(k:Bool):aR→St→Option (Bool×St)
 |.nil=>fun st=>some (k,st)
 |.cons e r=>fun st=>ak (eK (ev e st)) (kT k (tO k r))
 |.new _=>fun _=>none
noncomputable def tK:aR→List (AV×AV)→St→Option (List (AV×AV)×St)
 |.nil=>fun acc st=>some (acc,st)
 |.cons k (.cons v r)=>fun acc st=>ak (mI (ev k st)) (kD1 (ev v) (tK r) acc)
 |.cons _ .nil=>fun _ _=>none
 |.cons _ (.new _)=>fun _ _=>none
 |.new _=>fun _ _=>none
noncomputable def xn:MO→St→Option (Option Int×St)
 |.no=>fun st=>some (none,st)
 |.yes e=>fun st=>ak (mI (ev e st)) kO
noncomputable def fL:MO→St→Option (Bool×St)
 |.no=>fun st=>some (true,st)
 |.yes e=>fun st=>eK (ev e st)
end
inductive br where|next|ret (r:Res)
noncomputable def br.ctorIdx(f:br):Nat:=br.casesOn (motive:=fun _=>Nat) f 0 fun _=>1
noncomputable def kA0(ds:List (Option AV))(st:St):Option (List (Option AV)×St):=some (none::ds,st)
noncomputable def kA2(d:AV)(ds:List (Option AV))(st:St):Option (List (Option AV)×St):=some (some d::ds,st)
def kA1(r:St→Option (List (Option AV)×St))(d:AV)(st:St):Option (List (Option AV)×St):=ak (r st) (kA2 d)
noncomputable def qH:aR→St→Option (List (Option AV)×St)
 |.nil=>fun st=>some ([],st)
 |.cons e r=>fun st=>ak (iH (ev T S e st)) (kA1 (qH r))
 |.new r=>fun st=>ak (qH r st) kA0
end
def ah5(st:St)(i:Nat)(d:Option AV):Option St:=match d with
 |some d=>put st i false (.val d)
 |none=>put st i true (.fresh (.lst []))
noncomputable def hZ:List Nat→List (Option AV)→St→Option St
 |[]=>fun l st=>match l with
  |[]=>some st
  |_=>none
 |i::is=>fun l st=>match l with
  |[]=>none
  |d::rs=>aw (ah5 st i d) (hZ is rs)
noncomputable def dw:List (Option AV)→Nat
 |[]=>0
 |d::r=>casesOn (motive:=fun _=>Nat) d (dw r+1) fun _=>dw r
noncomputable def kS(r:St→Option (br×St))(f:br)(st:St):Option (br×St):=match f with
 |.next=>r st
 |.ret x=>some (.ret x,st)
def kW(b again:St→Option (br×St))(x:Bool)(st:St):Option (br×St):=sw x (ak (b st) (kS again)) (some (.next,st))
noncomputable def gS(c:St→Option (Bool×St))(b:St→Option (br×St)):Nat→St→Option (br×St)
 |0=>fun _=>none
 |n+1=>fun st=>ak (c st) (kW b (gS c b n))
noncomputable def cG(b:AV→St→Option (br×St)):List AV→St→Option (br×St)
 |[]=>fun st=>some (.next,st)
 |x::l=>fun st=>ak (b x st) (kS (cG b l))
noncomputable def kN(st:St):Option (br×St):=some (.next,st)
def acQ(i:Nat)(own:Bool)(r:Res)(st:St):Option (br×St):=aw (put st i own r) kN
def acS(is:List Nat)(d:AV)(st:St):Option (br×St):=aw (lC st (.many is) d) kN
def pq(rev:Bool)(is:List Nat)(rs:List (Option AV))(st:St):Option St:=sw rev (hZ is.reverse rs.reverse st) (hZ is rs st)
def acR(rev:Bool)(is:List Nat)(rs:List (Option AV))(st:St):Option (br×St):=aJ (ble (dw rs) 1) (aw (pq rev is rs st) kN)
def adI(T:Tab)(i:Nat)(x:Str)(d:AV)(st:St)(s:Slot):Option (br×St):=eV s fun c=>sW c fun c fs=>aJ (T.nf c x&&ble fs.length 100) (some (.next,st.set i (.own (.inst c (nE fs x d)))))
def adH(T:Tab)(i:Nat)(x:Str)(d:AV)(st:St):Option (br×St):=adI T i x d st (st.get i)
def adM(i:Nat)(d:AV)(st:St)(k:AV)(c:AC):Option (br×St):=AC.casesOn (motive:=fun _=>Option (br×St)) c (fun l=>bD k fun n=>aw (idx l.length n) fun j=>some (.next,st.set i (.own (.lst (l.set j d)))))
 (fun l=>aJ (c9 l k&&decide (l.length<1000000)) (some (.next,st.set i (.own (.aq (dh l k d)))))) fun _ _=>none
def adL(i:Nat)(d:AV)(st:St)(k:AV)(s:Slot):Option (br×St):=eV s (adM i d st k)
def adK(i:Nat)(d k:AV)(st:St):Option (br×St):=adL i d st k (st.get i)
def adJ(i:Nat)(k:iv)(d:AV)(st:St):Option (br×St):=eV (st.get i) fun _=>ak (iH (k st)) (adK i d)
def acP(i:Nat)(d:AV)(st:St)(s:Slot):Option (br×St):=eV s fun c=>oP c fun l=>aJ (decide (l.length<lim)) (some (.next,st.set i (.own (.lst (l++[d])))))
def acO(i:Nat)(d:AV)(st:St):Option (br×St):=acP i d st (st.get i)
def LX(i:Nat)(e:iv)(st:St)(s:Slot):Option (br×St):=eV s fun c=>oP c fun _=>ak (iH (e st)) (acO i)
def adn(r:Res)(st:St):Option (br×St):=Res.casesOn (motive:=fun _=>Option (br×St)) r (fun d=>kQ d fun _=>some (.next,st)) (fun _=>none) fun _=>none
noncomputable def adG(r:Res)(st:St):Option (br×St):=some (.ret r,st)
def iJ(e:iv)(st:St):Option (Bool×St):=eK (e st)
def eG(t:eO)(b:St→Option (br×St))(x:AV)(st:St):Option (br×St):=aw (lC st t x) b
def kFor(t:eO)(b:St→Option (br×St))(d:AV)(st:St):Option (br×St):=aw (gJ d) fun l=>cG (eG t b) l st
section
variable (T:Tab) (S:cf) (F:Nat)
mutual
noncomputable def ex:MS→St→Option (br×St)
 |.asg i own e=>fun st=>ak (ev T S e st) (acQ i own)
 |.eZ rev is es=>fun st=>ak (qH T S es st) (acR rev is)
 |.fK is e=>fun st=>ak (iH (ev T S e st)) (acS is)
 |.aV i x e=>fun st=>ak (iH (ev T S e st)) (adH T i x)
 |.fF i k e=>fun st=>ak (iH (ev T S e st)) (adJ i (ev T S k))
 |.app i e=>fun st=>LX i (ev T S e) st (st.get i)
 |.drop e=>fun st=>ak (ev T S e st) adn
 |.ret e=>fun st=>ak (ev T S e st) adG
 |.iff c a b=>fun st=>ak (eK (ev T S c st)) (L8 (bj a) (bj b))
 |.gw c b=>fun st=>gS (iJ (ev T S c)) (bj b) F st
 |.bz t e b=>fun st=>ak (iH (ev T S e st)) (kFor t (bj b))
 |.stop=>fun _=>none
noncomputable def bj:ai→St→Option (br×St)
 |.nil=>kN
 |.cons x r=>fun st=>ak (ex x st) (kS (bj r))
end
end
structure FD where
 np:Nat
 dflt:List AV
 ns:Nat
 body:ai
structure qb where
 T:Tab
 fn:Addr→Option FD
 uy:Addr→Option Addr
def fill(d:FD)(k:Nat)(vs:List AV):Option (List AV):=
 aJ (ble (vs.length+k) d.np&&ble (d.np-(vs.length+k)) d.dflt.length) (some (vs++d.dflt.drop (d.dflt.length-(d.np-(vs.length+k)))))
noncomputable def ajS(a b:AC):Bool:=AC.casesOn (motive:=fun _=>Bool) a (fun _=>AC.casesOn (motive:=fun _=>Bool) b (fun _=>true) (fun _=>true) fun _ _=>false) (fun _=>AC.casesOn (motive:=fun _=>Bool) b (fun _=>true) (fun _=>true) fun _ _=>false) fun _ _=>AC.casesOn (motive:=fun _=>Bool) b (fun _=>false) (fun _=>false) fun _ _=>true
def OA(m:Bool)(r:Res)(st:St):Option Res:=match r with
 |.val d=>some (.val d)
 |.fresh c=>some (.fresh c)
 |.loc i=>aJ (!(m&&beq i 0)) (eV (st.get i) fun c=>some (.fresh c))
def nY(c:AC)(r:Res)(s:Slot):Option (Res×Option AC):=eV s fun c'=>aJ (ajS c c') (some (r,some c'))
def out(cin:Option AC)(r:Res)(st:St):Option (Res×Option AC):=match cin with
 |some c=>aw (OA true r st) fun r=>nY c r (st.get 0)
 |none=>aw (OA false r st) fun r=>some (r,none)
noncomputable def jI:Option AC→Nat
 |some _=>1
 |none=>0
noncomputable def preOf:Option AC→St
 |some c=>[.own c]
 |none=>[]
def fin(cin:Option AC)(f:br)(st:St):Option (Res×Option AC):=match f with
 |.next=>out cin (.val .none) st
 |.ret r=>out cin r st
def start(ns:Nat)(cin:Option AC)(vs:List AV):St:=preOf cin++(vs.map .val++replicate (ns-(jI cin+vs.length)) .no)
def run(P:qb)(F:Nat)(S:cf)(d:FD)(cin:Option AC)(vs:List AV):Option (Res×Option AC):=
 aw (fill d (jI cin) vs) fun vs=>ak (bj P.T S F d.body (start d.ns cin vs)) (fin cin)
def Mb(f:Addr)(p:Res×Option AC):Option (Res×Option AC):=Res.casesOn (motive:=fun _=>Option (Res×Option AC)) p.1 (fun d=>aJ (pk d) (aw p.2 fun c=>some (.fresh c,none))) (fun _=>none) fun _=>none
noncomputable def dW(P:qb)(F:Nat):Nat→cf
 |0=>fun _ _ _=>none
 |n+1=>fun f cin vs=>casesOn (motive:=fun _=>Option (Res×Option AC)) (P.fn f) (aw (P.uy f) fun i=>aJ cin.isNone (aw (dW P F n i (some (.inst f [])) vs) (Mb f))) fun d=>aJ (P.T.chg f==cin.isSome) (run P F (dW P F n) d cin vs)
end
section
local macro_rules (kind := Vector.«term#v[_,]»)
  | s => return s[1].getSepArgs.foldr (fun x r => pT "2Lean.Parser.Term.app 2Lean.Parser.Term.dotIdent '. cons 2null $ $a" #[x, r]) (pT "2Lean.Parser.Term.dotIdent '. nil")
local macro_rules (kind := char)
  | s => return pT ("2Lean.Parser.Term.app 2Lean.Parser.Term.dotIdent '. var 1null 1num '" ++ toString (s.isCharLit?.get!.toNat - 65))
local macro_rules (kind := Lean.Parser.Term.paren)
  | s => if s[1].getKind = `num then return pT "2Lean.Parser.Term.app 2Lean.Parser.Term.dotIdent '. con 1null 2Lean.Parser.Term.app 2Lean.Parser.Term.dotIdent '. int 1null $" #[s[1]] else Lean.Macro.throwUnsupported
local macro_rules (kind := str)
  | s => return pT "3Lean.Parser.Term.anonymousCtor '⟨ 1null 3«term#[_,]» '#[ $ '] '⟩" #[Lean.mkNullNode (s.isStrLit?.get!.toList.toArray.flatMap fun c => #[pT ("1num '" ++ toString c.toNat), .atom .none ","])]
noncomputable def cV:Str:="u16"
noncomputable def aP:Str:="put16"
noncomputable def pI:Str:="filled"
noncomputable def zw:Str:="big"
noncomputable def uY:Str:="WORD"
noncomputable def lT:Str:="part_of"
noncomputable def cu:Str:="rows"
noncomputable def gv:Str:="tag"
noncomputable def lV:Str:="told_sum"
noncomputable def gq:Str:="place"
noncomputable def ig:Str:="size"
noncomputable def jk:Str:="u32"
noncomputable def uX:Str:="VERSION"
noncomputable def uN:Str:="HEAD_SIZE"
noncomputable def uV:Str:="ROW_SIZE"
noncomputable def yY:Str:="DirectoryRow"
noncomputable def Af:Str:="tag_of"
noncomputable def zO:Str:="read_directory"
noncomputable def uW:Str:="Tables"
noncomputable def rT:Str:="SUM_PLACE"
noncomputable def vy:Str:="sum_of"
noncomputable def bq:Str:="head"
noncomputable def vn:Str:="plain_head"
noncomputable def mV:Str:="tags"
noncomputable def Ac:Str:="steps_of"
noncomputable def eY:Str:="put32"
noncomputable def iU:Str:="table"
noncomputable def Ae:Str:="tag_octets"
noncomputable def Ad:Str:="sum_of_table"
noncomputable def zC:Str:="directory_octets"
noncomputable def rY:Str:="has"
noncomputable def za:Str:="MAGIC_SUM"
noncomputable def aH:Str:="octets"
noncomputable def cx:Str:="ends"
noncomputable def d8:Str:="starts"
noncomputable def jg:Str:="deltas"
noncomputable def iO:Str:="begin"
noncomputable def jh:Str:="offsets"
noncomputable def vg:Str:="first_from"
noncomputable def ck:Str:="glyphs"
noncomputable def zo:Str:="SegmentMap"
noncomputable def y6:Str:="GroupMap"
noncomputable def zZ:Str:="read_rows"
noncomputable def yX:Str:="BEST"
noncomputable def zW:Str:="read_map"
noncomputable def z8:Str:="runs_of"
noncomputable def rQ:Str:="LAST_CODE"
noncomputable def zG:Str:="is_even_run"
noncomputable def zD:Str:="exponent_of"
noncomputable def Am:Str:="write_format_4"
noncomputable def Al:Str:="write_format_12"
noncomputable def bA:Str:="units"
noncomputable def cw:Str:="box"
noncomputable def bL:Str:="is_long"
noncomputable def eX:Str:="flags"
noncomputable def jj:Str:="style"
noncomputable def y7:Str:="HEAD_OCTETS"
noncomputable def uR:Str:="MAGIC"
noncomputable def y9:Str:="LEAST_UNITS"
noncomputable def zg:Str:="MOST_UNITS"
noncomputable def ji:Str:="s16"
noncomputable def uO:Str:="Head"
noncomputable def iN:Str:="ascender"
noncomputable def iP:Str:="descender"
noncomputable def iR:Str:="gap"
noncomputable def cJ:Str:="count"
noncomputable def uQ:Str:="Lines"
noncomputable def zy:Str:="common_divisor"
noncomputable def cD:Str:="contours"
noncomputable def dz:Str:="instructions"
noncomputable def gr:Str:="points"
noncomputable def pJ:Str:="fraction"
def lU:Str:="spot"
noncomputable def vm:Str:="middle"
noncomputable def zv:Str:="begin_of"
noncomputable def mT:Str:="move"
noncomputable def Eh:Str:="line"
noncomputable def vq:Str:="quad"
noncomputable def oi:Str:="close"
noncomputable def zA:Str:="contour_segments"
noncomputable def bF:Str:="at"
noncomputable def mR:Str:="byte"
noncomputable def uU:Str:="REPEAT"
noncomputable def om:Str:="signed"
noncomputable def ot:Str:="word"
noncomputable def zP:Str:="read_ends"
def mU:Str:="part"
noncomputable def zQ:Str:="read_flags"
noncomputable def vt:Str:="read_deltas"
noncomputable def u5:Str:="X_SHORT"
noncomputable def u3:Str:="X_SAME"
noncomputable def u7:Str:="Y_SHORT"
noncomputable def u6:Str:="Y_SAME"
noncomputable def uT:Str:="ON_CURVE"
noncomputable def pH:Str:="Outline"
noncomputable def zB:Str:="contours_of"
noncomputable def cO:Str:="glyph"
noncomputable def fA:Str:="first"
noncomputable def gu:Str:="second"
noncomputable def iS:Str:="is_move"
noncomputable def gQ:Str:="scale"
noncomputable def zm:Str:="SCALE"
noncomputable def zp:Str:="TWO_SCALES"
noncomputable def yZ:Str:="FOUR_SCALES"
noncomputable def mQ:Str:="UNIT"
noncomputable def pG:Str:="MOVES"
noncomputable def uZ:Str:="WORDS"
noncomputable def vw:Str:="signed_byte"
noncomputable def rR:Str:="MORE"
noncomputable def zK:Str:="read_arguments"
noncomputable def rS:Str:="Part"
noncomputable def z0:Str:="read_scale"
noncomputable def y8:Str:="INSTRUCTIONS"
noncomputable def fE:Str:="places"
noncomputable def zk:Str:="Octets"
noncomputable def vj:Str:="glyph_octets"
noncomputable def zd:Str:="MOST_DEPTH"
noncomputable def z6:Str:="read_simple"
noncomputable def zY:Str:="read_parts"
noncomputable def bH:Str:="outline"
noncomputable def zJ:Str:="placed"
noncomputable def Ai:Str:="turned"
noncomputable def zI:Str:="moved"
noncomputable def uS:Str:="MOST_REPEATS"
noncomputable def vd:Str:="axis_flag"
noncomputable def ve:Str:="box_octets"
noncomputable def zE:Str:="flag_octets"
noncomputable def zu:Str:="argument_octets"
noncomputable def z9:Str:="scale_octets"
noncomputable def ko:Str:="advances"
noncomputable def kq:Str:="bearings"
noncomputable def zh:Str:="Metrics"
noncomputable def Ah:Str:="told_advances"
noncomputable def zH:Str:="kern_rows"
noncomputable def uP:Str:="Kern"
noncomputable def cN:Str:="advance"
noncomputable def cT:Str:="bearing"
noncomputable def fB:Str:="parts"
noncomputable def zz:Str:="composite_octets"
noncomputable def Ab:Str:="simple_octets"
noncomputable def dg:Str:="letters"
noncomputable def dm:Str:="codes"
noncomputable def dY:Str:="maps"
noncomputable def bC:Str:="pairs"
noncomputable def bg:Str:="lines"
noncomputable def zj:Str:="NO_BOX"
noncomputable def An:Str:="write_glyphs"
noncomputable def Au:Str:="write_metrics"
noncomputable def lP:Str:="glyf"
noncomputable def lR:Str:="loca"
noncomputable def lQ:Str:="hmtx"
noncomputable def Ao:Str:="write_head"
noncomputable def Aj:Str:="whole_box"
noncomputable def oj:Str:="maxp"
noncomputable def As:Str:="write_maxp"
noncomputable def rW:Str:="greatest"
noncomputable def pK:Str:="hhea"
noncomputable def Aq:Str:="write_lines"
noncomputable def rV:Str:="cmap"
noncomputable def Ak:Str:="write_cmap"
noncomputable def Ar:Str:="write_map"
noncomputable def gp:Str:="kern"
noncomputable def Ap:Str:="write_kern"
noncomputable def Av:Str:="write_tables"
noncomputable def bE:Str:="tables"
noncomputable def z7:Str:="read_tables"
noncomputable def zR:Str:="read_head"
noncomputable def zU:Str:="read_lines"
noncomputable def zN:Str:="read_count"
noncomputable def zV:Str:="read_loca"
noncomputable def y4:Str:="GlyphTable"
noncomputable def d7:Str:="signs"
noncomputable def zL:Str:="read_cmap"
noncomputable def dZ:Str:="metrics"
noncomputable def zX:Str:="read_metrics"
noncomputable def zT:Str:="read_kern"
noncomputable def iQ:Str:="find"
noncomputable def Aa:Str:="segments_of"
noncomputable def oq:Str:="value"
noncomputable def lj:Str:="_law_take"
noncomputable def jf:Str:="_law_one"
noncomputable def u9:Str:="_law_contour"
noncomputable def rZ:Str:="segments"
noncomputable def zt:Str:="_law_pool"
noncomputable def vc:Str:="_law_outline"
noncomputable def pF:Str:="Letter"
noncomputable def vb:Str:="_law_moved"
noncomputable def zl:Str:="Plan"
noncomputable def y3:Str:="Font"
noncomputable def zx:Str:="built"
noncomputable def iT:Str:="row"
noncomputable def zq:Str:="_law_ends_right"
noncomputable def cU:Str:="found"
noncomputable def lS:Str:="number"
noncomputable def aiN:Str:="total"
noncomputable def Oq:Str:="whole"
noncomputable def aiD:Str:="octet"
noncomputable def bM:Str:="self"
noncomputable def vo:Str:="power"
noncomputable def Ef:Str:="exponent"
noncomputable def aif:Str:="adjustment"
noncomputable def mS:Str:="code"
noncomputable def Oc:Str:="low"
noncomputable def Oa:Str:="high"
noncomputable def NZ:Str:="half"
noncomputable def ku:Str:="many"
noncomputable def zF:Str:="form"
noncomputable def ail:Str:="best"
noncomputable def Og:Str:="platform"
noncomputable def NV:Str:="encoding"
noncomputable def Eg:Str:="last"
noncomputable def aiH:Str:="runs"
noncomputable def aiz:Str:="lists"
noncomputable def ain:Str:="body"
noncomputable def aiu:Str:="depth"
noncomputable def Od:Str:="numbers"
noncomputable def Ot:Str:="widest"
noncomputable def Ei:Str:="one"
noncomputable def Ej:Str:="other"
noncomputable def Oo:Str:="top"
noncomputable def aio:Str:="bottom"
noncomputable def air:Str:="common"
noncomputable def vf:Str:="contour"
noncomputable def Ee:Str:="across"
noncomputable def Ek:Str:="up"
noncomputable def NW:Str:="end"
noncomputable def Aw:Str:="x"
noncomputable def Ax:Str:="y"
noncomputable def Oh:Str:="point"
def aiK:Str:="start"
noncomputable def ais:Str:="control"
noncomputable def NX:Str:="flag"
noncomputable def Ol:Str:="short"
noncomputable def Oi:Str:="same"
noncomputable def Om:Str:="step"
noncomputable def aiM:Str:="third"
noncomputable def aie:Str:="above"
noncomputable def Ob:Str:="inner"
noncomputable def aiE:Str:="outer"
noncomputable def aiw:Str:="fixed"
noncomputable def aiA:Str:="loose"
noncomputable def aih:Str:="anchor"
noncomputable def aiG:Str:="own"
noncomputable def NT:Str:="a"
noncomputable def NU:Str:="b"
def Oe:Str:="on"
noncomputable def aiP:Str:="x_flag"
noncomputable def aiQ:Str:="x_octets"
noncomputable def aiR:Str:="y_flag"
noncomputable def aiS:Str:="y_octets"
def Ag:Str:="told"
noncomputable def q_c:Str:="c"
noncomputable def q_d:Str:="d"
noncomputable def aii:Str:="argument_flag"
noncomputable def aij:Str:="arguments"
noncomputable def aiI:Str:="scale_flag"
noncomputable def vk:Str:="left"
noncomputable def vu:Str:="right"
noncomputable def aiy:Str:="letter"
noncomputable def Of:Str:="plan"
noncomputable def aiB:Str:="more"
noncomputable def aiJ:Str:="sizes"
noncomputable def Oj:Str:="script"
noncomputable def q_k:Str:="k"
noncomputable def aiq:Str:="cell"
noncomputable def vx:Str:="source"
noncomputable def aiv:Str:="drawn"
noncomputable def aiL:Str:="things"
noncomputable def aiO:Str:="turn"
noncomputable def NY:Str:="font"
noncomputable def aik:Str:="begins"
noncomputable def aiF:Str:="outlines"
noncomputable def aiC:Str:="moves"
noncomputable def aim:Str:="between"
noncomputable def G3:ai:= #v[.iff (.cv false #v[.cmp .lt 'B' (0),.cmp .gt (.bin .add 'B' (2)) (.blt .len #v['A'])]) #v[.stop] .nil,.ret (.bin .add (.bin .mul (.sub 'A' 'B') (256)) (.sub 'A' (.bin .add 'B' (1))))]
def Kc:FD:=⟨2,[],2,G3⟩
def GW:ai:= #v[.asg 2 false (.call cV 72 #v['A','B']),.ret (.dj (.cmp .ge 'C' (32768)) (.bin .sub 'C' (65536)) 'C')]
def J4:FD:=⟨2,[],3,GW⟩
def G4:ai:= #v[.ret (.bin .add (.bin .mul (.call cV 72 #v['A','B']) (65536)) (.call cV 72 #v['A',.bin .add 'B' (2)]))]
def Kd:FD:=⟨2,[],2,G4⟩
noncomputable def GG:ai:= #v[.ret (.blt .bytes #v[.lst #v[.bin .mod (.bin .fdiv 'A' (256)) (256),.bin .mod 'A' (256)]])]
def JO:FD:=⟨1,[],1,GG⟩
def GH:ai:= #v[.ret (.bin .add (.call aP 93 #v[.bin .fdiv 'A' (65536)]) (.call aP 93 #v['A']))]
def JP:FD:=⟨1,[],1,GH⟩
noncomputable def GB:ai:= #v[.iff (.cv false #v[.cmp .lt 'B' (0),.cmp .lt 'C' (0),.cmp .gt (.bin .add 'B' 'C') (.blt .len #v['A'])]) #v[.stop] .nil,.ret (.blt .bytes #v[.fW 'A' (.yes 'B') (.yes (.bin .add 'B' 'C'))])]
def JL:FD:=⟨3,[],3,GB⟩
noncomputable def Gz:ai:= #v[.ret (.bin .add 'A' (.blt .bytes #v[.bin .mod (.bin .sub (4) (.bin .mod (.blt .len #v['A']) (4))) (4)]))]
def JE:FD:=⟨1,[],1,Gz⟩
def G0:ai:= #v[.asg 1 false (0),.asg 2 false (.call pI 114 #v['A']),.bz (.one 3) (.blt .range #v[(0),.blt .len #v['C'],(4)]) #v[.asg 1 false (.bin .add 'B' (.blt .fromBytes #v[.fW 'C' (.yes 'D') (.yes (.bin .add 'D' (4))),.con (.str zw)]))],.ret (.bin .mod 'B' (.glob uY (.int 4294967296)))]
def J9:FD:=⟨1,[],4,G0⟩
def G2:ai:= #v[.asg 2 false (.con (.str ⟨#[]⟩)),.bz (.one 3) (.call lT 107 #v['A','B',(4)]) #v[.iff (.cv false #v[.cmp .lt 'D' (32),.cmp .gt 'D' (126)]) #v[.stop] .nil,.asg 2 false (.bin .add 'C' (.blt .chr #v['D']))],.ret 'C']
def Kb:FD:=⟨2,[],4,G2⟩
noncomputable def TZ:ai:= #v[.iff (.cv false #v[.cmp .gt (.blt .len #v['A']) (4),.cmp .eq 'A' (.con (.str ⟨#[]⟩))]) #v[.stop] .nil,.ret (.blt .bytes #v[.comp 1 (.one 1) (.bin .add 'A' (.bin .mul (.con (.str " ")) (.bin .sub (4) (.blt .len #v['A'])))) .no (.blt .ord #v['B'])])]
def ZN:FD:=⟨1,[],1,TZ⟩
def Tt:ai:= #v[.aV 0 cu 'B']
def Zx:FD:=⟨2,[],2,Tt⟩
def Gn:ai:= #v[.ret (.blt .sorted #v[.attr 'A' cu])]
def Jo:FD:=⟨1,[],1,Gn⟩
def Bc:ai:= #v[.ret (.cmp .fQ 'B' (.attr 'A' cu))]
def BU:FD:=⟨2,[],2,Bc⟩
def Gm:ai:= #v[.iff (.cmp .kZ 'B' (.attr 'A' cu)) #v[.stop] .nil,.ret (.sub (.attr 'A' cu) 'B')]
def Jn:FD:=⟨2,[],2,Gm⟩
def S6:ai:= #v[.aV 0 gv 'B',.aV 0 lV 'C',.aV 0 gq 'D',.aV 0 ig 'E']
def Ze:FD:=⟨5,[],5,S6⟩
def GK:ai:= #v[.iff (.cmp .kZ (.call jk 86 #v['A',(0)]) (.tup #v[.glob uX (.int 65536),(1953658213)])) #v[.stop] .nil,.asg 1 true (.lst .nil),.bz (.one 2) (.blt .range #v[.call cV 72 #v['A',(4)]]) #v[.asg 3 false (.bin .add (.glob uN (.int 12)) (.bin .mul (.glob uV (.int 16)) 'C')),.asg 4 false (.call yY 192 #v[.call Af 128 #v['A','D'],.call jk 86 #v['A',.bin .add 'D' (4)],.call jk 86 #v['A',.bin .add 'D' (8)],.call jk 86 #v['A',.bin .add 'D' (12)]]),.iff (.cmp .gt (.bin .add (.attr 'E' gq) (.attr 'E' ig)) (.blt .len #v['A'])) #v[.stop] .nil,.app 1 'E'],.ret 'B']
def JU:FD:=⟨1,[],5,GK⟩
def GU:ai:= #v[.asg 1 true (.aq .nil),.bz (.one 2) (.call zO 203 #v['A']) #v[.iff (.cmp .fQ (.attr 'C' gv) 'B') #v[.stop] .nil,.fF 1 (.attr 'C' gv) (.call lT 107 #v['A',.attr 'C' gq,.attr 'C' ig])],.ret (.call uW 171 #v['B'])]
def J3:FD:=⟨1,[],3,GU⟩
def GD:ai:= #v[.ret (.bin .add (.bin .add (.fW 'A' .no (.yes (.glob rT (.int 8)))) (.blt .bytes #v[(4)])) (.fW 'A' (.yes (.bin .add (.glob rT (.int 8)) (4))) .no))]
def JN:FD:=⟨1,[],1,GD⟩
def G1:ai:= #v[.ret (.call vy 121 #v[.dj (.cmp .eq 'A' (.con (.str bq))) (.call vn 217 #v['B']) 'B'])]
def Ka:FD:=⟨2,[],2,G1⟩
noncomputable def GZ:ai:= #v[.asg 1 false (1),.asg 2 false (0),.gw (.cmp .le (.bin .mul 'B' (2)) 'A') #v[.asg 1 false (.bin .mul 'B' (2)),.asg 2 false (.bin .add 'C' (1))],.ret (.tup #v['B','C'])]
def B8:FD:=⟨1,[],3,GZ⟩
def Gy:ai:= #v[.asg 2 false (.blt .len #v[.aO 'A' mV .nil]),.fK [3,4] (.call Ac 231 #v[.blt .max #v[(1),'C']]),.asg 5 false (.bin .add (.bin .add (.bin .add (.bin .add (.call eY 100 #v[.glob uX (.int 65536)]) (.call aP 93 #v['C'])) (.call aP 93 #v[.bin .mul 'D' (16)])) (.call aP 93 #v['E'])) (.call aP 93 #v[.bin .mul (.bin .sub 'C' 'D') (16)])),.bz (.one 6) (.aO 'A' mV .nil) #v[.asg 7 false (.aO 'A' iU #v['G']),.asg 5 false (.bin .add (.bin .add (.bin .add (.bin .add 'F' (.call Ae 133 #v['G'])) (.call eY 100 #v[.call Ad 224 #v['G','H']])) (.call eY 100 #v[.sub 'B' 'G'])) (.call eY 100 #v[.blt .len #v['H']]))],.ret 'F']
def JD:FD:=⟨2,[],8,Gy⟩
def qj:ai:= #v[.asg 1 true (.aq .nil),.asg 2 false (.bin .add (.glob uN (.int 12)) (.bin .mul (.glob uV (.int 16)) (.blt .len #v[.aO 'A' mV .nil]))),.bz (.one 3) (.aO 'A' mV .nil) #v[.fF 1 'D' 'C',.asg 2 false (.bin .add 'C' (.blt .len #v[.call pI 114 #v[.aO 'A' iU #v['D']]]))],.asg 4 false (.call zC 238 #v['A','B']),.bz (.one 3) (.aO 'A' mV .nil) #v[.asg 5 false (.aO 'A' iU #v['D']),.asg 4 false (.bin .add 'E' (.call pI 114 #v[.dj (.cmp .eq 'D' (.con (.str bq))) (.call vn 217 #v['F']) 'F']))],.iff (.nt (.aO 'A' rY #v[.con (.str bq)])) #v[.stop] .nil,.asg 6 false (.bin .mod (.bin .sub (.glob za (.int 2981146554)) (.call vy 121 #v['E'])) (.glob uY (.int 4294967296))),.asg 7 false (.bin .add (.sub 'B' (.con (.str bq))) (.glob rT (.int 8))),.ret (.bin .add (.bin .add (.fW 'E' .no (.yes 'H')) (.call eY 100 #v['G'])) (.fW 'E' (.yes (.bin .add 'H' (4))) .no))]
def Ki:FD:=⟨1,[],8,qj⟩
noncomputable def TG:ai:= #v[.asg 2 false (0),.asg 3 false (.blt .len #v['A']),.gw (.cmp .lt 'C' 'D') #v[.asg 4 false (.bin .fdiv (.bin .add 'C' 'D') (2)),.iff (.cmp .lt (.sub 'A' 'E') 'B') #v[.asg 2 false (.bin .add 'E' (1))] #v[.asg 3 false 'E']],.ret 'C']
def Zz:FD:=⟨2,[],5,TG⟩
def Ts:ai:= #v[.aV 0 aH 'B',.asg 2 false (.bin .fdiv (.call cV 72 #v['B',(6)]) (2)),.aV 0 cx (.comp 1 (.one 5) (.blt .range #v['C']) .no (.call cV 72 #v['B',.bin .add (14) (.bin .mul (2) 'F')])),.asg 3 false (.bin .add (16) (.bin .mul (2) 'C')),.aV 0 d8 (.comp 1 (.one 5) (.blt .range #v['C']) .no (.call cV 72 #v['B',.bin .add 'D' (.bin .mul (2) 'F')])),.aV 0 jg (.comp 1 (.one 5) (.blt .range #v['C']) .no (.call cV 72 #v['B',.bin .add 'D' (.bin .mul (2) (.bin .add 'C' 'F'))])),.aV 0 iO (.bin .add 'D' (.bin .mul (4) 'C')),.aV 0 jh (.comp 1 (.one 5) (.blt .range #v['C']) .no (.call cV 72 #v['B',.bin .add (.attr 'A' iO) (.bin .mul (2) 'F')])),.bz (.one 4) (.blt .range #v[(1),'C']) #v[.iff (.cmp .le (.sub (.attr 'A' cx) 'E') (.sub (.attr 'A' cx) (.bin .sub 'E' (1)))) #v[.stop] .nil]]
def Zw:FD:=⟨2,[],5,Ts⟩
def Tr:ai:= #v[.asg 2 false (.call vg 315 #v[.attr 'A' cx,'B']),.iff (.cv false #v[.cmp .eq 'C' (.blt .len #v[.attr 'A' cx]),.cmp .lt 'B' (.sub (.attr 'A' d8) 'C')]) #v[.ret (0)] .nil,.iff (.cmp .eq (.sub (.attr 'A' jh) 'C') (0)) #v[.ret (.bin .mod (.bin .add 'B' (.sub (.attr 'A' jg) 'C')) (65536))] .nil,.asg 3 false (.call cV 72 #v[.attr 'A' aH,.bin .add (.bin .add (.bin .add (.attr 'A' iO) (.bin .mul (2) 'C')) (.sub (.attr 'A' jh) 'C')) (.bin .mul (2) (.bin .sub 'B' (.sub (.attr 'A' d8) 'C')))]),.ret (.dj (.cmp .ne 'D' (0)) (.bin .mod (.bin .add 'D' (.sub (.attr 'A' jg) 'C')) (65536)) (0))]
def Zv:FD:=⟨2,[],4,Tr⟩
def S9:ai:= #v[.asg 2 false (.call jk 86 #v['B',(12)]),.iff (.cmp .gt (.bin .add (16) (.bin .mul (12) 'C')) (.blt .len #v['B'])) #v[.stop] .nil,.aV 0 d8 (.comp 1 (.one 4) (.blt .range #v['C']) .no (.call jk 86 #v['B',.bin .add (16) (.bin .mul (12) 'E')])),.aV 0 cx (.comp 1 (.one 4) (.blt .range #v['C']) .no (.call jk 86 #v['B',.bin .add (20) (.bin .mul (12) 'E')])),.aV 0 ck (.comp 1 (.one 4) (.blt .range #v['C']) .no (.call jk 86 #v['B',.bin .add (24) (.bin .mul (12) 'E')])),.bz (.one 3) (.blt .range #v['C']) #v[.iff (.cv false #v[.cmp .lt (.sub (.attr 'A' cx) 'D') (.sub (.attr 'A' d8) 'D'),.cv true #v[.cmp .gt 'D' (0),.cmp .le (.sub (.attr 'A' d8) 'D') (.sub (.attr 'A' cx) (.bin .sub 'D' (1)))]]) #v[.stop] .nil]]
def Zh:FD:=⟨2,[],4,S9⟩
def S8:ai:= #v[.asg 2 false (.call vg 315 #v[.attr 'A' cx,'B']),.iff (.cv false #v[.cmp .eq 'C' (.blt .len #v[.attr 'A' cx]),.cmp .lt 'B' (.sub (.attr 'A' d8) 'C')]) #v[.ret (0)] .nil,.ret (.bin .sub (.bin .add (.sub (.attr 'A' ck) 'C') 'B') (.sub (.attr 'A' d8) 'C'))]
def Zg:FD:=⟨2,[],3,S8⟩
def TR:ai:= #v[.asg 1 false (.call cV 72 #v['A',(0)]),.iff (.cmp .eq 'B' (0)) #v[.stop] .nil,.iff (.cmp .eq 'B' (4)) #v[.ret (.call zo 337 #v['A'])] .nil,.iff (.cmp .eq 'B' (6)) #v[.stop] .nil,.iff (.cmp .eq 'B' (12)) #v[.ret (.call y6 363 #v['A'])] .nil,.stop]
def ZH:FD:=⟨1,[],2,TR⟩
def TU:ai:= #v[.ret (.comp 1 (.one 1) (.blt .range #v[.call cV 72 #v['A',(2)]]) .no (.tup #v[.call cV 72 #v['A',.bin .add (4) (.bin .mul (8) 'B')],.call cV 72 #v['A',.bin .add (6) (.bin .mul (8) 'B')],.call jk 86 #v['A',.bin .add (8) (.bin .mul (8) 'B')]]))]
def ZJ:FD:=⟨1,[],1,TU⟩
def TP:ai:= #v[.asg 1 false (.call zZ 379 #v['A']),.iff (.cmp .eq 'B' (.lst .nil)) #v[.stop] .nil,.bz (.one 2) (.glob yX (.tup [(.tup [(.int 3),(.int 10)]),(.tup [(.int 0),(.int 4)]),(.tup [(.int 0),(.int 3)]),(.tup [(.int 3),(.int 1)]),(.tup [(.int 0),(.int 1)]),(.tup [(.int 0),(.int 0)]),(.tup [(.int 3),(.int 0)]),(.tup [(.int 1),(.int 0)])])) #v[.bz (.many [3,4,5]) 'B' #v[.iff (.cmp .eq (.tup #v['D','E']) 'C') #v[.ret (.call zW 374 #v[.call lT 107 #v['A','F',.bin .sub (.blt .len #v['A']) 'F']])] .nil]],.stop]
def ZF:FD:=⟨1,[],6,TP⟩
noncomputable def TV:ai:= #v[.asg 1 true (.lst .nil),.bz (.one 2) (.blt .sorted #v['A']) #v[.iff (.cv true #v[.cmp .ne 'B' (.lst .nil),.cmp .eq (.sub (.sub 'B' (.neg (1))) (1)) (.bin .sub 'C' (1))]) #v[.fF 1 (.neg (1)) (.tup #v[.sub (.sub 'B' (.neg (1))) (0),'C'])] #v[.app 1 (.tup #v['C','C'])]],.ret 'B']
def ZK:FD:=⟨1,[],3,TV⟩
noncomputable def TH:ai:= #v[.bz (.one 3) (.blt .range #v['B',.bin .add 'C' (1)]) #v[.iff (.cmp .ne (.bin .sub (.sub 'A' 'D') 'D') (.bin .sub (.sub 'A' 'B') 'B')) #v[.ret (.con (.bool false))] .nil],.ret (.con (.bool true))]
def ZC:FD:=⟨3,[],4,TH⟩
def T4:ai:= #v[.asg 1 false (.bin .add (.call z8 405 #v[.comp 1 (.one 15) 'A' (.yes (.cmp .lt 'P' (.glob rQ (.int 65535)))) 'P']) (.lst #v[.tup #v[.glob rQ (.int 65535),.glob rQ (.int 65535)]])),.asg 2 false (.blt .len #v['B']),.eZ false [3,4,5] #v[.con (.bytes []),.con (.bytes []),.con (.bytes [])],.bz (.one 6) (.blt .range #v['C']) #v[.fK [7,8] (.sub 'B' 'G'),.iff (.cmp .eq 'G' (.bin .sub 'C' (1))) #v[.eZ true [3,4] #v[.bin .add 'D' (.call aP 93 #v[(1)]),.bin .add 'E' (.call aP 93 #v[(0)])]] #v[.iff (.call zG 412 #v['A','H','I']) #v[.eZ true [3,4] #v[.bin .add 'D' (.call aP 93 #v[.bin .sub (.sub 'A' 'H') 'H']),.bin .add 'E' (.call aP 93 #v[(0)])]] #v[.eZ true [3,4] #v[.bin .add 'D' (.call aP 93 #v[(0)]),.bin .add 'E' (.call aP 93 #v[.bin .add (.bin .mul (2) (.bin .sub 'C' 'G')) (.blt .len #v['F'])])],.bz (.one 9) (.blt .range #v['H',.bin .add 'I' (1)]) #v[.asg 5 false (.bin .add 'F' (.call aP 93 #v[.sub 'A' 'J']))]]]],.asg 10 false (.bm .join (.con (.bytes [])) #v[.comp 2 (.many [15,16]) 'B' .no (.call aP 93 #v['Q'])]),.asg 11 false (.bm .join (.con (.bytes [])) #v[.comp 2 (.many [15,16]) 'B' .no (.call aP 93 #v['P'])]),.asg 12 false (1),.gw (.cmp .le (.bin .mul 'M' (2)) 'C') #v[.asg 12 false (.bin .mul 'M' (2))],.asg 13 false (.bin .add (.bin .add (.bin .add (.call aP 93 #v[.bin .mul (2) 'C']) (.call aP 93 #v[.bin .mul (2) 'M'])) (.call aP 93 #v[.call zD 424 #v['M']])) (.call aP 93 #v[.bin .mul (2) (.bin .sub 'C' 'M')])),.asg 14 false (.bin .add (.bin .add (.bin .add (.bin .add (.bin .add (.bin .add 'N' 'K') (.call aP 93 #v[(0)])) 'L') 'D') 'E') 'F'),.ret (.bin .add (.bin .add (.bin .add (.call aP 93 #v[(4)]) (.call aP 93 #v[.bin .add (6) (.blt .len #v['O'])])) (.call aP 93 #v[(0)])) 'O')]
def ZS:FD:=⟨1,[],15,T4⟩
noncomputable def TC:ai:= #v[.asg 1 false (0),.gw (.cmp .gt 'A' (1)) #v[.asg 0 false (.bin .fdiv 'A' (2)),.asg 1 false (.bin .add 'B' (1))],.ret 'B']
def Zy:FD:=⟨1,[],2,TC⟩
def T3:ai:= #v[.asg 1 true (.lst .nil),.bz (.one 2) (.blt .sorted #v['A']) #v[.iff (.cv true #v[.cmp .ne 'B' (.lst .nil),.cmp .eq (.sub (.sub 'B' (.neg (1))) (1)) (.bin .sub 'C' (1)),.cmp .eq (.bin .sub (.bin .add (.sub (.sub 'B' (.neg (1))) (2)) 'C') (.sub (.sub 'B' (.neg (1))) (0))) (.sub 'A' 'C')]) #v[.fF 1 (.neg (1)) (.tup #v[.sub (.sub 'B' (.neg (1))) (0),'C',.sub (.sub 'B' (.neg (1))) (2)])] #v[.app 1 (.tup #v['C','C',.sub 'A' 'C'])]],.asg 3 false (.bm .join (.con (.bytes [])) #v[.comp 3 (.many [4,5,6]) 'B' .no (.bin .add (.bin .add (.call eY 100 #v['E']) (.call eY 100 #v['F'])) (.call eY 100 #v['G']))]),.ret (.bin .add (.bin .add (.bin .add (.bin .add (.bin .add (.call aP 93 #v[(12)]) (.call aP 93 #v[(0)])) (.call eY 100 #v[.bin .add (16) (.blt .len #v['D'])])) (.call eY 100 #v[(0)])) (.call eY 100 #v[.blt .len #v['B']])) 'D')]
def ZR:FD:=⟨1,[],4,T3⟩
def T6:ai:= #v[.iff (.cmp .eq 'A' (0)) #v[.stop] .nil,.iff (.cmp .eq 'A' (4)) #v[.ret (.call Am 417 #v['B'])] .nil,.iff (.cmp .eq 'A' (6)) #v[.stop] .nil,.iff (.cmp .eq 'A' (12)) #v[.ret (.call Al 429 #v['B'])] .nil,.stop]
def ZU:FD:=⟨2,[],2,T6⟩
def T2:ai:= #v[.asg 1 false (.bin .add (.call aP 93 #v[(0)]) (.call aP 93 #v[.blt .len #v['A']])),.asg 2 false (.bin .add (4) (.bin .mul (8) (.blt .len #v['A']))),.asg 3 false (.con (.bytes [])),.bz (.many [4,5,6]) (.blt .sorted #v['A']) #v[.asg 1 false (.bin .add (.bin .add (.bin .add 'B' (.call aP 93 #v['E'])) (.call aP 93 #v['F'])) (.call eY 100 #v[.bin .add 'C' (.blt .len #v['D'])])),.asg 3 false (.bin .add 'D' 'G')],.ret (.bin .add 'B' 'D')]
def ZQ:FD:=⟨1,[],7,T2⟩
def Ta:ai:= #v[.aV 0 bA 'B',.aV 0 cw 'C',.aV 0 bL 'D',.aV 0 eX 'E',.aV 0 jj 'F']
def Zi:FD:=⟨6,[(.int 0),(.int 0)],6,Ta⟩
def GN:ai:= #v[.iff (.cv false #v[.cmp .lt (.blt .len #v['A']) (.glob y7 (.int 54)),.cmp .ne (.call jk 86 #v['A',(12)]) (.glob uR (.int 1594834165))]) #v[.stop] .nil,.asg 1 false (.call cV 72 #v['A',(18)]),.iff (.cv false #v[.cmp .lt 'B' (.glob y9 (.int 16)),.cmp .gt 'B' (.glob zg (.int 16384))]) #v[.stop] .nil,.asg 2 false (.tup #v[.call ji 79 #v['A',(36)],.call ji 79 #v['A',(38)],.call ji 79 #v['A',(40)],.call ji 79 #v['A',(42)]]),.asg 3 false (.call cV 72 #v['A',(50)]),.iff (.cmp .gt 'D' (1)) #v[.stop] .nil,.ret (.call uO 468 #v['B','C',.cmp .eq 'D' (1),.call cV 72 #v['A',(16)],.call cV 72 #v['A',(44)]])]
def B0:FD:=⟨1,[],4,GN⟩
def G6:ai:= #v[.asg 1 false (.bin .add (.bin .add (.bin .add (.bin .add (.bin .add (.bin .add (.call eY 100 #v[(65536)]) (.call eY 100 #v[(65536)])) (.call eY 100 #v[(0)])) (.call eY 100 #v[.glob uR (.int 1594834165)])) (.call aP 93 #v[.attr 'A' eX])) (.call aP 93 #v[.attr 'A' bA])) (.blt .bytes #v[(16)])),.bz (.one 2) (.attr 'A' cw) #v[.asg 1 false (.bin .add 'B' (.call aP 93 #v['C']))],.ret (.bin .add (.bin .add (.bin .add (.bin .add (.bin .add 'B' (.call aP 93 #v[.attr 'A' jj])) (.call aP 93 #v[(8)])) (.call aP 93 #v[(2)])) (.call aP 93 #v[.dj (.attr 'A' bL) (1) (0)])) (.call aP 93 #v[(0)]))]
def Kf:FD:=⟨1,[],3,G6⟩
def GJ:ai:= #v[.iff (.cmp .lt (.blt .len #v['A']) (6)) #v[.stop] .nil,.ret (.call cV 72 #v['A',(4)])]
def JS:FD:=⟨1,[],1,GJ⟩
def G8:ai:= #v[.asg 4 false (.lst #v['A','B','C','B','C',(2),(16),(64),(64),(0),(256),(0),(16),'D']),.asg 5 false (.call eY 100 #v[(65536)]),.bz (.one 6) 'E' #v[.asg 5 false (.bin .add 'F' (.call aP 93 #v['G']))],.ret 'F']
def Kh:FD:=⟨4,[],7,G8⟩
def Te:ai:= #v[.aV 0 iN 'B',.aV 0 iP 'C',.aV 0 iR 'D',.aV 0 cJ 'E']
def Zm:FD:=⟨5,[],5,Te⟩
def Tf:ai:= #v[.ret (.tup #v[.attr 'A' iN,.attr 'A' iP,.attr 'A' iR,.attr 'A' cJ])]
def Zn:FD:=⟨1,[],1,Tf⟩
def GO:ai:= #v[.iff (.cmp .lt (.blt .len #v['A']) (36)) #v[.stop] .nil,.ret (.call uQ 524 #v[.call ji 79 #v['A',(4)],.call ji 79 #v['A',(6)],.call ji 79 #v['A',(8)],.call cV 72 #v['A',(34)]])]
def JX:FD:=⟨1,[],1,GO⟩
def G7:ai:= #v[.asg 2 false (.bin .add (.bin .add (.bin .add (.bin .add (.call eY 100 #v[(65536)]) (.call aP 93 #v[.attr 'A' iN])) (.call aP 93 #v[.attr 'A' iP])) (.call aP 93 #v[.attr 'A' iR])) (.call aP 93 #v['B'])),.ret (.bin .add (.bin .add (.bin .add (.bin .add (.bin .add 'C' (.blt .bytes #v[(6)])) (.call aP 93 #v[(1)])) (.call aP 93 #v[(0)])) (.blt .bytes #v[(12)])) (.call aP 93 #v[.attr 'A' cJ]))]
def Kg:FD:=⟨2,[],3,G7⟩
noncomputable def Bg:ai:= #v[.eZ true [2,3] #v[.blt .abs #v['A'],'B'],.gw (.cmp .gt 'D' (0)) #v[.eZ true [2,3] #v['D',.bin .mod 'C' 'D']],.ret 'C']
def BY:FD:=⟨2,[],4,Bg⟩
def Bh:ai:= #v[.iff (.cmp .eq 'B' (0)) #v[.stop] .nil,.iff (.cmp .lt 'B' (0)) #v[.stop] .nil,.asg 2 false (.call zy 549 #v['A','B']),.ret (.tup #v[.bin .fdiv 'A' 'C',.bin .fdiv 'B' 'C'])]
def BZ:FD:=⟨2,[(.int 1)],3,Bh⟩
def Tn:ai:= #v[.aV 0 cD 'B',.aV 0 dz 'C']
def Zs:FD:=⟨3,[(.bytes [])],3,Tn⟩
def Gl:ai:= #v[.asg 1 false (.lst .nil),.bz (.one 2) (.attr 'A' cD) #v[.asg 1 false (.bin .add 'B' (.blt .list #v['C']))],.ret 'B']
def Jm:FD:=⟨1,[],3,Gl⟩
def Gk:ai:= #v[.asg 1 true (.lst .nil),.asg 2 false (.neg (1)),.bz (.one 3) (.attr 'A' cD) #v[.asg 2 false (.bin .add 'C' (.blt .len #v['D'])),.app 1 'C'],.ret 'B']
def Jl:FD:=⟨1,[],4,Gk⟩
def Gj:ai:= #v[.asg 1 false (.aO 'A' gr .nil),.iff (.cmp .eq 'B' (.lst .nil)) #v[.stop] .nil,.asg 2 false (.comp 3 (.many [4,5,6]) 'B' .no (.blt .int #v['E'])),.asg 3 false (.comp 3 (.many [4,5,6]) 'B' .no (.blt .int #v['F'])),.ret (.tup #v[.blt .min #v['C'],.blt .min #v['D'],.blt .max #v['C'],.blt .max #v['D']])]
def BS:FD:=⟨1,[],4,Gj⟩
noncomputable def wH:ai:= #v[.asg 2 true (.lst .nil),.asg 3 false (0),.bz (.one 4) 'B' #v[.app 2 (.blt .list #v[.fW 'A' (.yes 'D') (.yes (.bin .add 'E' (1)))]),.asg 3 false (.bin .add 'E' (1))],.ret 'C']
def JB:FD:=⟨2,[],5,wH⟩
noncomputable def TM:ai:= #v[.ret (.comp 1 (.one 3) 'A' .no (.comp 3 (.many [4,5,6]) 'D' .no (.tup #v[.bin .add 'E' 'B',.bin .add 'F' 'C','G'])))]
def JJ:FD:=⟨3,[],3,TM⟩
def GY:ai:= #v[.ret (.tup #v[.call pJ 557 #v[.sub 'A' (0)],.call pJ 557 #v[.sub 'A' (1)]])]
def J8:FD:=⟨1,[],1,GY⟩
def GA:ai:= #v[.ret (.tup #v[.call pJ 557 #v[.bin .add (.sub 'A' (0)) (.sub 'B' (0)),(2)],.call pJ 557 #v[.bin .add (.sub 'A' (1)) (.sub 'B' (1)),(2)]])]
def JI:FD:=⟨2,[],2,GA⟩
def Gu:ai:= #v[.iff (.sub (.sub 'A' (0)) (2)) #v[.ret (.tup #v[.call lU 634 #v[.sub 'A' (0)],.bin .add (.fW 'A' (.yes (1)) .no) (.fW 'A' .no (.yes (1)))])] .nil,.iff (.sub (.sub 'A' (.neg (1))) (2)) #v[.ret (.tup #v[.call lU 634 #v[.sub 'A' (.neg (1))],.blt .list #v['A']])] .nil,.ret (.tup #v[.call vm 641 #v[.sub 'A' (.neg (1)),.sub 'A' (0)],.blt .list #v['A']])]
def BW:FD:=⟨1,[],1,Gu⟩
def wG:ai:= #v[.fK [1,2] (.call zv 648 #v['A']),.asg 3 true (.lst #v[.tup #v[.con (.str mT),'B']]),.asg 4 false (.con .none),.bz (.one 5) 'C' #v[.iff (.sub 'F' (2)) #v[.app 3 (.dj (.cmp .hM 'E' (.con .none)) (.tup #v[.con (.str Eh),.call lU 634 #v['F']]) (.tup #v[.con (.str vq),.call lU 634 #v['E'],.call lU 634 #v['F']])),.asg 4 false (.con .none)] #v[.iff (.cmp .hN 'E' (.con .none)) #v[.app 3 (.tup #v[.con (.str vq),.call lU 634 #v['E'],.call vm 641 #v['E','F']])] .nil,.asg 4 false 'F']],.iff (.cmp .hN 'E' (.con .none)) #v[.app 3 (.tup #v[.con (.str vq),.call lU 634 #v['E'],'B'])] .nil,.app 3 (.tup #v[.con (.str oi)]),.ret 'D']
def JA:FD:=⟨1,[],6,wG⟩
def wM:ai:= #v[.asg 1 false (.lst .nil),.bz (.one 2) (.attr 'A' cD) #v[.iff (.cmp .gt (.blt .len #v['C']) (1)) #v[.asg 1 false (.bin .add 'B' (.call zA 655 #v[.blt .list #v['C']]))] .nil],.ret 'B']
def J5:FD:=⟨1,[],3,wM⟩
def GP:ai:= #v[.asg 3 false (.dj 'B' (4) (2)),.asg 4 true (.lst .nil),.bz (.one 5) (.blt .range #v[.bin .add 'C' (1)]) #v[.asg 6 false (.dj 'B' (.call jk 86 #v['A',.bin .mul (4) 'F']) (.bin .mul (2) (.call cV 72 #v['A',.bin .mul (2) 'F']))),.iff (.cv true #v[.cmp .ne 'E' (.lst .nil),.cmp .lt 'G' (.sub 'E' (.neg (1)))]) #v[.stop] .nil,.app 4 'G'],.iff (.cmp .lt (.blt .len #v['A']) (.bin .mul 'D' (.bin .add 'C' (1)))) #v[.stop] .nil,.ret 'E']
def JY:FD:=⟨3,[],7,GP⟩
def Tj:ai:= #v[.aV 0 aH 'B',.aV 0 bF (0)]
def Zr:FD:=⟨2,[],2,Tj⟩
def Gf:ai:= #v[.aV 0 bF (.bin .add (.attr 'A' bF) (1)),.ret (.sub (.call lT 107 #v[.attr 'A' aH,.bin .sub (.attr 'A' bF) (1),(1)]) (0))]
def Jh:FD:=⟨1,[],1,Gf⟩
def Gi:ai:= #v[.aV 0 bF (.bin .add (.attr 'A' bF) (2)),.ret (.call cV 72 #v[.attr 'A' aH,.bin .sub (.attr 'A' bF) (2)])]
def Jk:FD:=⟨1,[],1,Gi⟩
def Gh:ai:= #v[.aV 0 bF (.bin .add (.attr 'A' bF) (2)),.ret (.call ji 79 #v[.attr 'A' aH,.bin .sub (.attr 'A' bF) (2)])]
def Jj:FD:=⟨1,[],1,Gh⟩
def Gg:ai:= #v[.aV 0 bF (.bin .add (.attr 'A' bF) 'B'),.ret (.call lT 107 #v[.attr 'A' aH,.bin .sub (.attr 'A' bF) 'B','B'])]
def Ji:FD:=⟨2,[],2,Gg⟩
def oS:ai:= #v[.asg 2 false (.lst .nil),.gw (.cmp .lt (.blt .len #v['C']) 'B') #v[.asg 3 false (.aO 'A' mR .nil),.asg 4 false (1),.iff (.cmp .ne (.bin .band 'D' (.glob uU (.int 8))) (0)) #v[.asg 4 false (.bin .add (1) (.aO 'A' mR .nil))] .nil,.asg 2 false (.bin .add 'C' (.bin .mul (.lst #v['D']) 'E'))],.iff (.cmp .gt (.blt .len #v['C']) 'B') #v[.stop] .nil,.ret 'C']
def JW:FD:=⟨2,[],5,oS⟩
def wK:ai:= #v[.asg 4 true (.lst .nil),.asg 5 false (0),.bz (.one 6) 'B' #v[.iff (.cmp .ne (.bin .band 'G' 'C') (0)) #v[.asg 7 false (.aO 'A' mR .nil),.asg 5 false (.dj (.cmp .ne (.bin .band 'G' 'D') (0)) (.bin .add 'F' 'H') (.bin .sub 'F' 'H'))] #v[.iff (.cmp .eq (.bin .band 'G' 'D') (0)) #v[.asg 5 false (.bin .add 'F' (.aO 'A' om .nil))] .nil],.app 4 'F'],.ret 'E']
def JT:FD:=⟨4,[],8,wK⟩
def th:ai:= #v[.asg 2 true (.lst .nil),.bz (.one 3) (.blt .range #v['B']) #v[.asg 4 false (.aO 'A' ot .nil),.iff (.cmp .le 'E' (.dj (.cmp .ne 'C' (.lst .nil)) (.sub 'C' (.neg (1))) (.neg (1)))) #v[.stop] .nil,.app 2 'E'],.ret 'C']
def JV:FD:=⟨2,[],5,th⟩
def GS:ai:= #v[.asg 2 false (.cz zP 739 0 #v['B']),.asg 3 false (.aO 'A' mU #v[.aO 'A' ot .nil]),.asg 4 false (.dj (.cmp .ne 'C' (.lst .nil)) (.bin .add (.sub 'C' (.neg (1))) (1)) (0)),.asg 5 false (.cz zQ 725 0 #v['E']),.asg 6 false (.cz vt 732 0 #v['F',.glob u5 (.int 2),.glob u3 (.int 16)]),.asg 7 false (.cz vt 732 0 #v['F',.glob u7 (.int 4),.glob u6 (.int 32)]),.asg 8 false (.comp 1 (.one 9) (.blt .range #v['E']) .no (.tup #v[.sub 'G' 'J',.sub 'H' 'J',.cmp .ne (.bin .band (.sub 'F' 'J') (.glob uT (.int 1))) (0)])),.ret (.call pH 599 #v[.call zB 610 #v['I','C'],'D'])]
def J1:FD:=⟨2,[],9,GS⟩
def To:ai:= #v[.aV 0 cO 'B',.aV 0 fA 'C',.aV 0 gu 'D',.aV 0 iS 'E',.aV 0 gQ 'F']
def Zt:FD:=⟨6,[(.bool true),(.tup [(.int 16384),(.int 0),(.int 0),(.int 16384)])],6,To⟩
def GR:ai:= #v[.iff (.cmp .ne (.bin .band 'B' (.glob zm (.int 8))) (0)) #v[.stop,.stop] .nil,.iff (.cmp .ne (.bin .band 'B' (.glob zp (.int 64))) (0)) #v[.stop,.stop] .nil,.iff (.cmp .ne (.bin .band 'B' (.glob yZ (.int 128))) (0)) #v[.stop,.stop] .nil,.ret (.tup #v[.glob mQ (.int 16384),(0),(0),.glob mQ (.int 16384)])]
def J0:FD:=⟨2,[],5,GR⟩
noncomputable def GX:ai:= #v[.ret (.dj (.cmp .ge 'A' (128)) (.bin .sub 'A' (256)) 'A')]
def J6:FD:=⟨1,[],1,GX⟩
def GI:ai:= #v[.asg 2 false (.cmp .ne (.bin .band 'B' (.glob pG (.int 2))) (0)),.iff (.cmp .ne (.bin .band 'B' (.glob uZ (.int 1))) (0)) #v[.iff 'C' #v[.asg 3 false (.aO 'A' om .nil),.ret (.tup #v['D',.aO 'A' om .nil])] .nil,.stop,.stop] .nil,.eZ true [3,4] #v[.aO 'A' mR .nil,.aO 'A' mR .nil],.iff 'C' #v[.ret (.tup #v[.call vw 788 #v['D'],.call vw 788 #v['E']])] .nil,.stop]
def JR:FD:=⟨2,[],5,GI⟩
def GQ:ai:= #v[.asg 1 true (.lst .nil),.asg 2 false (.glob rR (.int 32)),.gw (.cmp .ne (.bin .band 'C' (.glob rR (.int 32))) (0)) #v[.asg 2 false (.aO 'A' ot .nil),.asg 3 false (.aO 'A' ot .nil),.fK [4,5] (.cz zK 795 0 #v['C']),.app 1 (.call rS 770 #v['D','E','F',.cmp .ne (.bin .band 'C' (.glob pG (.int 2))) (0),.cz z0 781 0 #v['C']])],.asg 6 false (.con (.bytes [])),.iff (.cmp .ne (.bin .band 'C' (.glob y8 (.int 256))) (0)) #v[.stop] .nil,.ret (.tup #v['B','G'])]
def JZ:FD:=⟨1,[],7,GQ⟩
def S7:ai:= #v[.aV 0 aH 'B',.aV 0 fE 'C']
def Zf:FD:=⟨3,[],3,S7⟩
def Gd:ai:= #v[.ret (.bin .sub (.blt .len #v[.attr 'A' fE]) (1))]
def Jf:FD:=⟨1,[],1,Gd⟩
def Ge:ai:= #v[.iff (.cv false #v[.cmp .lt 'B' (0),.cmp .ge 'B' (.aO 'A' cJ .nil)]) #v[.stop] .nil,.ret (.call lT 107 #v[.attr 'A' aH,.sub (.attr 'A' fE) 'B',.bin .sub (.sub (.attr 'A' fE) (.bin .add 'B' (1))) (.sub (.attr 'A' fE) 'B')])]
def Jg:FD:=⟨2,[],2,Ge⟩
def wB:ai:= #v[.asg 3 true (.call zk 714 #v[.aO 'A' vj #v['B']]),.iff (.cmp .eq (.attr 'D' aH) (.con (.bytes []))) #v[.ret (.call pH 599 #v[.lst .nil])] .nil,.iff (.cmp .fQ 'B' 'C') #v[.stop] .nil,.iff (.cmp .ge (.blt .len #v['C']) (.glob zd (.int 8))) #v[.stop] .nil,.asg 4 false (.aO 'D' om .nil),.drop (.aO 'D' mU #v[(8)]),.iff (.cmp .ge 'E' (0)) #v[.ret (.cz z6 744 3 #v['E'])] .nil,.fK [5,6] (.cz zY 802 3 .nil),.asg 7 false (.lst .nil),.bz (.one 8) 'F' #v[.asg 9 false (.aO 'A' bH #v[.attr 'I' cO,.bin .add 'C' (.tup #v['B'])]),.asg 7 false (.bin .add 'H' (.call zJ 860 #v['I',.attr 'J' cD,'H']))],.ret (.call pH 599 #v['H','G'])]
def tP:FD:=⟨3,[(.tup [])],10,wB⟩
def GC:ai:= #v[.asg 3 false (.dj (.cmp .ne (.attr 'A' gQ) (.tup #v[.glob mQ (.int 16384),(0),(0),.glob mQ (.int 16384)])) (.call Ai 627 #v['B',.attr 'A' gQ]) 'B'),.iff (.attr 'A' iS) #v[.ret (.call zI 615 #v['D',.attr 'A' fA,.attr 'A' gu])] .nil,.stop,.stop,.stop,.stop]
def JM:FD:=⟨3,[],8,GC⟩
def Gs:ai:= #v[.iff (.cmp .eq 'A' (0)) #v[.ret (.tup #v['C',.con (.bytes [])])] .nil,.iff (.gb .lt .lt (0) 'A' (256)) #v[.ret (.tup #v[.bin .bor 'B' 'C',.blt .bytes #v[.lst #v['A']]])] .nil,.iff (.gb .lt .lt (.neg (256)) 'A' (0)) #v[.ret (.tup #v['B',.blt .bytes #v[.lst #v[.bin .sub (0) 'A']]])] .nil,.iff (.cv false #v[.cmp .lt 'A' (.neg (32768)),.cmp .gt 'A' (32767)]) #v[.stop] .nil,.ret (.tup #v[(0),.call aP 93 #v['A']])]
def Jw:FD:=⟨3,[],3,Gs⟩
def mj:ai:= #v[.asg 1 false (.con (.bytes [])),.asg 2 false (0),.gw (.cmp .lt 'C' (.blt .len #v['A'])) #v[.asg 3 false (1),.gw (.cv true #v[.cmp .lt (.bin .add 'C' 'D') (.blt .len #v['A']),.cmp .eq (.sub 'A' (.bin .add 'C' 'D')) (.sub 'A' 'C'),.cmp .le 'D' (.glob uS (.int 255))]) #v[.asg 3 false (.bin .add 'D' (1))],.iff (.cmp .gt 'D' (2)) #v[.asg 1 false (.bin .add 'B' (.blt .bytes #v[.lst #v[.bin .bor (.sub 'A' 'C') (.glob uU (.int 8)),.bin .sub 'D' (1)]]))] #v[.asg 1 false (.bin .add 'B' (.bin .mul (.blt .bytes #v[.lst #v[.sub 'A' 'C']]) 'D'))],.asg 2 false (.bin .add 'C' 'D')],.ret 'B']
def JF:FD:=⟨1,[],4,mj⟩
def Gv:ai:= #v[.ret (.bm .join (.con (.bytes [])) #v[.comp 1 (.one 1) 'A' .no (.call aP 93 #v['B'])])]
def Jx:FD:=⟨1,[],1,Gv⟩
def ti:ai:= #v[.iff (.cmp .eq (.attr 'A' cD) (.lst .nil)) #v[.stop] .nil,.eZ true [1,2,3] (.new #v[.con (.bytes []),.con (.bytes [])]),.eZ false [4,5] #v[(0),(0)],.bz (.many [6,7,8]) (.aO 'A' gr .nil) #v[.fK [9,10] (.call vd 867 #v[.bin .sub 'G' 'E',.glob u5 (.int 2),.glob u3 (.int 16)]),.fK [11,12] (.call vd 867 #v[.bin .sub 'H' 'F',.glob u7 (.int 4),.glob u6 (.int 32)]),.app 1 (.bin .bor (.bin .bor 'J' 'L') (.dj 'I' (.glob uT (.int 1)) (0))),.eZ true [2,3] #v[.bin .add 'C' 'K',.bin .add 'D' 'M'],.eZ true [4,5] #v['G','H']],.asg 13 false (.bm .join (.con (.bytes [])) #v[.comp 1 (.one 15) (.aO 'A' cx .nil) .no (.call aP 93 #v['P'])]),.asg 14 false (.bin .add (.call aP 93 #v[.blt .len #v[.attr 'A' dz]]) (.attr 'A' dz)),.ret (.bin .add (.bin .add (.bin .add (.bin .add (.bin .add (.bin .add (.call aP 93 #v[.blt .len #v[.attr 'A' cD]]) (.call ve 879 #v[.aO 'A' cw .nil])) 'N') 'O') (.call zE 874 #v['B'])) 'C') 'D')]
def J7:FD:=⟨1,[],15,ti⟩
def TX:ai:= #v[.fK [1,2,3,4] 'A',.iff (.cmp .eq 'A' (.tup #v[.glob mQ (.int 16384),(0),(0),.glob mQ (.int 16384)])) #v[.ret (.tup #v[(0),.con (.bytes [])])] .nil,.stop,.stop,.stop]
def ZL:FD:=⟨1,[],5,TX⟩
def Gr:ai:= #v[.eZ true [1,2] #v[.attr 'A' fA,.attr 'A' gu],.iff (.attr 'A' iS) #v[.iff (.cv true #v[.gb .le .lt (.neg (128)) 'B' (128),.gb .le .lt (.neg (128)) 'C' (128)]) #v[.ret (.tup #v[.glob pG (.int 2),.blt .bytes #v[.lst #v[.bin .mod 'B' (256),.bin .mod 'C' (256)]]])] .nil,.ret (.tup #v[.bin .bor (.glob pG (.int 2)) (.glob uZ (.int 1)),.bin .add (.call aP 93 #v['B']) (.call aP 93 #v['C'])])] .nil,.stop,.stop]
def Jv:FD:=⟨1,[],3,Gr⟩
def Gx:ai:= #v[.iff (.cmp .eq 'A' (.lst .nil)) #v[.stop] .nil,.asg 3 false (.bin .add (.call aP 93 #v[.neg (1)]) (.call ve 879 #v['B'])),.bz (.one 4) (.blt .range #v[.blt .len #v['A']]) #v[.fK [5,6] (.call zu 898 #v[.sub 'A' 'E']),.fK [7,8] (.call z9 891 #v[.attr (.sub 'A' 'E') gQ]),.asg 9 false (.bin .bor 'F' 'H'),.iff (.cmp .lt (.bin .add 'E' (1)) (.blt .len #v['A'])) #v[.asg 9 false (.bin .bor 'J' (.glob rR (.int 32)))] #v[.iff (.cmp .ne 'C' (.con (.bytes []))) #v[.stop] .nil],.asg 3 false (.bin .add (.bin .add (.bin .add (.bin .add 'D' (.call aP 93 #v['J'])) (.call aP 93 #v[.attr (.sub 'A' 'E') cO])) 'G') 'I')],.iff (.cmp .ne 'C' (.con (.bytes []))) #v[.stop] .nil,.ret 'D']
def Jz:FD:=⟨3,[(.bytes [])],10,Gx⟩
def G5:ai:= #v[.asg 2 false (.con (.bytes [])),.asg 3 true (.lst #v[(0)]),.bz (.one 4) 'A' #v[.asg 2 false (.bin .add 'C' (.call pI 114 #v['E'])),.app 3 (.blt .len #v['C'])],.iff (.cv true #v[.nt 'B',.cmp .ge (.sub 'D' (.neg (1))) (131072)]) #v[.stop] .nil,.asg 5 false (.con (.bytes [])),.bz (.one 6) 'D' #v[.asg 5 false (.bin .add 'F' (.dj 'B' (.call eY 100 #v['G']) (.call aP 93 #v[.bin .fdiv 'G' (2)])))],.ret (.tup #v['C','F'])]
def Ke:FD:=⟨2,[],7,G5⟩
def Ti:ai:= #v[.aV 0 ko 'B',.aV 0 kq 'C']
def Zq:FD:=⟨3,[],3,Ti⟩
def Tg:ai:= #v[.iff (.cv false #v[.cmp .lt 'B' (0),.cmp .ge 'B' (.blt .len #v[.attr 'A' kq])]) #v[.stop] .nil,.ret (.sub (.attr 'A' ko) (.blt .min #v['B',.bin .sub (.blt .len #v[.attr 'A' ko]) (1)]))]
def Zo:FD:=⟨2,[],2,Tg⟩
def Th:ai:= #v[.iff (.cv false #v[.cmp .lt 'B' (0),.cmp .ge 'B' (.blt .len #v[.attr 'A' kq])]) #v[.stop] .nil,.ret (.sub (.attr 'A' kq) 'B')]
def Zp:FD:=⟨2,[],2,Th⟩
def TS:ai:= #v[.iff (.cv false #v[.cmp .lt 'B' (1),.cmp .gt 'B' 'C']) #v[.stop] .nil,.asg 3 false (.comp 1 (.one 6) (.blt .range #v['B']) .no (.call cV 72 #v['A',.bin .mul (4) 'G'])),.asg 4 true (.comp 1 (.one 6) (.blt .range #v['B']) .no (.call ji 79 #v['A',.bin .add (.bin .mul (4) 'G') (2)])),.bz (.one 5) (.blt .range #v[.bin .sub 'C' 'B']) #v[.app 4 (.call ji 79 #v['A',.bin .add (.bin .mul (4) 'B') (.bin .mul (2) 'F')])],.ret (.call zh 944 #v['D','E'])]
def ZI:FD:=⟨3,[],6,TS⟩
noncomputable def T1:ai:= #v[.asg 1 false (.blt .len #v['A']),.gw (.cv true #v[.cmp .gt 'B' (1),.cmp .eq (.sub 'A' (.bin .sub 'B' (1))) (.sub 'A' (.bin .sub 'B' (2)))]) #v[.asg 1 false (.bin .sub 'B' (1))],.ret 'B']
def ZO:FD:=⟨1,[],2,T1⟩
def T7:ai:= #v[.asg 1 false (.call Ah 960 #v[.comp 2 (.many [6,7]) 'A' .no 'G']),.asg 2 false (.con (.bytes [])),.bz (.one 3) (.blt .range #v[.blt .len #v['A']]) #v[.fK [4,5] (.sub 'A' 'D'),.asg 2 false (.bin .add (.bin .add 'C' (.dj (.cmp .lt 'D' 'B') (.call aP 93 #v['E']) (.con (.bytes [])))) (.call aP 93 #v['F']))],.ret (.tup #v['C','B'])]
def ZV:FD:=⟨1,[],6,T7⟩
def Tb:ai:= #v[.aV 0 cu 'B']
def Zj:FD:=⟨2,[],2,Tb⟩
def Tc:ai:= #v[.asg 3 false (0),.asg 4 false (.blt .len #v[.attr 'A' cu]),.gw (.cmp .lt 'D' 'E') #v[.asg 5 false (.bin .fdiv (.bin .add 'D' 'E') (2)),.iff (.cmp .lt (.fW (.sub (.attr 'A' cu) 'F') .no (.yes (2))) (.tup #v['B','C'])) #v[.asg 3 false (.bin .add 'F' (1))] #v[.asg 4 false 'F']],.iff (.cv true #v[.cmp .lt 'D' (.blt .len #v[.attr 'A' cu]),.cmp .eq (.fW (.sub (.attr 'A' cu) 'D') .no (.yes (2))) (.tup #v['B','C'])]) #v[.ret (.sub (.sub (.attr 'A' cu) 'D') (2))] .nil,.ret (0)]
def Zk:FD:=⟨3,[],6,Tc⟩
def TJ:ai:= #v[.asg 1 true (.lst .nil),.bz (.one 2) (.blt .range #v[.call cV 72 #v['A',(6)]]) #v[.asg 3 false (.bin .add (14) (.bin .mul (6) 'C')),.app 1 (.tup #v[.call cV 72 #v['A','D'],.call cV 72 #v['A',.bin .add 'D' (2)],.call ji 79 #v['A',.bin .add 'D' (4)]])],.ret 'B']
def ZE:FD:=⟨1,[],4,TJ⟩
def TQ:ai:= #v[.asg 1 true (.aq .nil),.asg 2 false (4),.bz (.one 3) (.blt .range #v[.call cV 72 #v['A',(2)]]) #v[.asg 4 false (.call cV 72 #v['A',.bin .add 'C' (2)]),.iff (.cv false #v[.cmp .lt 'E' (6),.cmp .gt (.bin .add 'C' 'E') (.blt .len #v['A'])]) #v[.stop] .nil,.iff (.cv true #v[.cmp .eq (.bin .fdiv (.call cV 72 #v['A',.bin .add 'C' (4)]) (256)) (0),.cmp .eq (.bin .mod (.call cV 72 #v['A',.bin .add 'C' (4)]) (2)) (1)]) #v[.bz (.many [5,6,7]) (.call zH 1000 #v[.call lT 107 #v['A','C','E']]) #v[.fF 1 (.tup #v['F','G']) (.bin .add (.bm .get 'B' #v[.tup #v['F','G'],(0)]) 'H')]] .nil,.asg 2 false (.bin .add 'C' 'E')],.ret (.call uP 989 #v[.comp 1 (.one 8) (.blt .sorted #v['B']) .no (.tup #v[.sub 'I' (0),.sub 'I' (1),.sub 'B' 'I'])])]
def ZG:FD:=⟨1,[],8,TQ⟩
def T5:ai:= #v[.asg 1 false (.blt .sorted #v['A']),.asg 2 false (1),.asg 3 false (0),.gw (.cmp .le (.bin .mul 'C' (2)) (.blt .len #v['B'])) #v[.asg 2 false (.bin .mul 'C' (2)),.asg 3 false (.bin .add 'D' (1))],.asg 4 false (.bin .add (.bin .add (.bin .add (.call aP 93 #v[.blt .len #v['B']]) (.call aP 93 #v[.bin .mul (6) 'C'])) (.call aP 93 #v['D'])) (.call aP 93 #v[.bin .mul (6) (.blt .max #v[(0),.bin .sub (.blt .len #v['B']) 'C'])])),.bz (.many [5,6,7]) 'B' #v[.asg 4 false (.bin .add (.bin .add (.bin .add 'E' (.call aP 93 #v['F'])) (.call aP 93 #v['G'])) (.call aP 93 #v['H']))],.ret (.bin .add (.bin .add (.bin .add (.bin .add (.bin .add (.call aP 93 #v[(0)]) (.call aP 93 #v[(1)])) (.call aP 93 #v[(0)])) (.call aP 93 #v[.bin .add (6) (.blt .len #v['E'])])) (.call aP 93 #v[(1)])) 'E')]
def ZT:FD:=⟨1,[],8,T5⟩
def Td:ai:= #v[.aV 0 cN 'B',.aV 0 cT 'C',.aV 0 bH 'D',.aV 0 fB 'E',.aV 0 cw 'F']
def Zl:FD:=⟨6,[.none,.none,(.tup [(.int 0),(.int 0),(.int 0),(.int 0)])],6,Td⟩
def wC:ai:= #v[.iff (.cmp .hN (.attr 'A' fB) (.con .none)) #v[.ret (.call zz 906 #v[.attr 'A' fB,.attr 'A' cw])] .nil,.ret (.dj (.cmp .hM (.attr 'A' bH) (.con .none)) (.con (.bytes [])) (.call Ab 884 #v[.attr 'A' bH]))]
def o7:FD:=⟨1,[],1,wC⟩
def wD:ai:= #v[.iff (.cmp .hM (.attr 'A' bH) (.con .none)) #v[.ret (.tup #v[(0),(0)])] .nil,.ret (.tup #v[.blt .len #v[.aO (.attr 'A' bH) gr .nil],.blt .len #v[.attr (.attr 'A' bH) cD]])]
def o8:FD:=⟨1,[],1,wD⟩
def Tq:ai:= #v[.aV 0 dg 'B',.aV 0 dm 'C',.aV 0 dY 'D',.aV 0 bC 'E',.aV 0 bA 'F',.aV 0 bL 'G',.aV 0 bg 'H']
def Zu:FD:=⟨8,[(.tup []),(.int 1000),(.bool false),(.tup [(.int 800),(.int (-200)),(.int 90)])],8,Tq⟩
def wN:ai:= #v[.asg 1 false (.con .none),.bz (.one 2) 'A' #v[.asg 3 false (.dj (.cmp .hM (.attr 'C' bH) (.con .none)) (.attr 'C' cw) (.aO (.attr 'C' bH) cw .nil)),.iff (.cv false #v[.cmp .hN (.attr 'C' bH) (.con .none),.cmp .hN (.attr 'C' fB) (.con .none)]) #v[.asg 1 false (.dj (.cmp .hM 'B' (.con .none)) 'D' (.tup #v[.blt .min #v[.sub 'B' (0),.sub 'D' (0)],.blt .min #v[.sub 'B' (1),.sub 'D' (1)],.blt .max #v[.sub 'B' (2),.sub 'D' (2)],.blt .max #v[.sub 'B' (3),.sub 'D' (3)]]))] .nil],.ret (.dj (.cmp .hM 'B' (.con .none)) (.glob zj (.tup [(.int 0),(.int 0),(.int 0),(.int 0)])) 'B')]
def B9:FD:=⟨1,[],4,wN⟩
def Gw:ai:= #v[.asg 2 true (.dj (.cmp .hM 'B' (.con .none)) (.aq .nil) (.blt .dict #v['B'])),.fK [3,4] (.call An 913 #v[.comp 1 (.one 12) (.attr 'A' dg) .no (.aO 'M' aH .nil),.attr 'A' bL]),.fK [5,6] (.call Au 965 #v[.comp 1 (.one 12) (.attr 'A' dg) .no (.tup #v[.attr 'M' cN,.attr 'M' cT])]),.asg 7 false (.comp 1 (.one 12) (.attr 'A' dg) .no (.aO 'M' gr .nil)),.fF 2 (.con (.str lP)) 'D',.fF 2 (.con (.str lR)) 'E',.fF 2 (.con (.str lQ)) 'F',.fF 2 (.con (.str bq)) (.call Ao 486 #v[.call uO 468 #v[.attr 'A' bA,.call Aj 1080 #v[.attr 'A' dg],.attr 'A' bL]]),.fF 2 (.con (.str oj)) (.call As 500 #v[.blt .len #v[.attr 'A' dg],.call rW 1093 #v[.comp 2 (.many [12,13]) 'H' .no 'M'],.call rW 1093 #v[.comp 2 (.many [12,13]) 'H' .no 'N'],(8)]),.fK [8,9,10] (.attr 'A' bg),.asg 11 false (.call rW 1093 #v[.comp 1 (.one 12) (.attr 'A' dg) .no (.attr 'M' cN)]),.fF 2 (.con (.str pK)) (.call Aq 542 #v[.call uQ 524 #v['I','J','K','G'],'L']),.fF 2 (.con (.str rV)) (.call Ak 443 #v[.comp 3 (.many [12,13,14]) (.attr 'A' dY) .no (.tup #v['M','N',.call Ar 436 #v['O',.attr 'A' dm]])]),.iff (.cmp .gt (.blt .len #v[.attr 'A' bC]) (0)) #v[.fF 2 (.con (.str gp)) (.call Ap 1012 #v[.blt .list #v[.attr 'A' bC]])] .nil,.ret (.call Av 245 #v[.call uW 171 #v['C']])]
def Jy:FD:=⟨2,[.none],12,Gw⟩
noncomputable def wI:ai:= #v[.asg 1 false (0),.bz (.one 2) 'A' #v[.asg 1 false (.blt .max #v['B','C'])],.ret 'B']
def JG:FD:=⟨1,[],3,wI⟩
def F7:ai:= #v[.aV 0 bE (.call z7 210 #v['B']),.aV 0 bq (.call zR 479 #v[.aO (.attr 'A' bE) iU #v[.con (.str bq)]]),.aV 0 bg (.call zU 535 #v[.aO (.attr 'A' bE) iU #v[.con (.str pK)]]),.asg 2 false (.call zN 493 #v[.aO (.attr 'A' bE) iU #v[.con (.str oj)]]),.asg 3 false (.call zV 669 #v[.aO (.attr 'A' bE) iU #v[.con (.str lR)],.attr (.attr 'A' bq) bL,'C']),.aV 0 ck (.call y4 849 #v[.aO (.attr 'A' bE) iU #v[.con (.str lP)],'D']),.aV 0 d7 (.call zL 386 #v[.aO (.attr 'A' bE) iU #v[.con (.str rV)]]),.aV 0 dZ (.call zX 953 #v[.aO (.attr 'A' bE) iU #v[.con (.str lQ)],.attr (.attr 'A' bg) cJ,'C']),.aV 0 bC (.dj (.aO (.attr 'A' bE) rY #v[.con (.str gp)]) (.call zT 1005 #v[.aO (.attr 'A' bE) iU #v[.con (.str gp)]]) (.call uP 989 #v[.lst .nil]))]
def Ja:FD:=⟨2,[],4,F7⟩
def Gb:ai:= #v[.ret (.attr (.attr 'A' bq) bA)]
def Je:FD:=⟨1,[],1,Gb⟩
def F5:ai:= #v[.ret (.aO (.attr 'A' ck) cJ .nil)]
def I8:FD:=⟨1,[],1,F5⟩
def F6:ai:= #v[.asg 2 false (.aO (.attr 'A' d7) iQ #v['B']),.ret (.dj (.cmp .lt 'C' (.aO 'A' cJ .nil)) 'C' (0))]
def I9:FD:=⟨2,[],3,F6⟩
def F9:ai:= #v[.ret (.aO (.attr 'A' ck) bH #v['B'])]
def Jc:FD:=⟨2,[],2,F9⟩
def Ga:ai:= #v[.ret (.call Aa 662 #v[.aO 'A' bH #v['B']])]
def Jd:FD:=⟨2,[],2,Ga⟩
def F3:ai:= #v[.ret (.aO (.attr 'A' dZ) cN #v['B'])]
def I6:FD:=⟨2,[],2,F3⟩
def F4:ai:= #v[.ret (.aO (.attr 'A' dZ) cT #v['B'])]
def I7:FD:=⟨2,[],2,F4⟩
def F8:ai:= #v[.ret (.aO (.attr 'A' bC) oq #v['B','C'])]
def Jb:FD:=⟨3,[],3,F8⟩
noncomputable def Be:ai:= #v[.asg 2 false (.dj (.cmp .lt 'B' (.blt .len #v['A'])) (.sub 'A' 'B') (0)),.asg 3 false (.blt .max #v[.blt .int #v['C'],.blt .int #v[.bin .sub (.neg (1)) 'C']]),.ret (.lst #v[.bin .mul 'D' (.blt .int #v[.cmp .ge 'D' (.bin .pow (10) (18))]),.bin .mod (.bin .mul (.bin .add (.bin .add (.bin .mod 'D' (2147483629)) (.bin .mul (7919) 'B')) (17)) (48271)) (2147483647)])]
def tQ:FD:=⟨2,[],4,Be⟩
noncomputable def Bf:ai:= #v[.iff (.cmp .gt (.sub 'A' (0)) (0)) #v[.asg 2 false (.bin .mod (.sub 'A' (0)) 'B'),.fF 0 (0) (.bin .fdiv (.sub 'A' (0)) 'B'),.ret 'C'] .nil,.fF 0 (1) (.bin .mod (.bin .add (.bin .mul (.sub 'A' (1)) (39373)) (7)) (2147483647)),.ret (.bin .mod (.bin .fdiv (.bin .mod (.bin .mul (.sub 'A' (1)) (.sub 'A' (1))) (2147483629)) (32)) 'B')]
def BV:FD:=⟨2,[],3,Bf⟩
def Gp:ai:= #v[.ret (.sub 'B' (.cz lj 1191 0 #v[.blt .len #v['B']]))]
def Js:FD:=⟨2,[],2,Gp⟩
def wF:ai:= #v[.eZ true [1,2,3] (.new #v[(0),(0)]),.bz (.one 4) (.blt .range #v[.bin .add (2) (.cz lj 1191 0 #v[(3)])]) #v[.asg 2 false (.bin .add 'C' (.cz jf 1198 0 #v[.lst #v[(0),(1),.neg (7),(255),(256),.neg (256),.neg (300)]])),.asg 3 false (.bin .add 'D' (.cz jf 1198 0 #v[.lst #v[(0),(9),.neg (1),(255),.neg (255),(400)]])),.app 1 (.tup #v['C','D',.cmp .gt (.cz lj 1191 0 #v[(3)]) (0)])],.ret 'B']
def Jp:FD:=⟨1,[],5,wF⟩
def Gq:ai:= #v[.ret (.call pH 599 #v[.comp 1 (.one 1) (.blt .range #v[.bin .add (1) (.cz lj 1191 0 #v[(2)])]) .no (.cz u9 1205 0 .nil),.blt .bytes #v[.cz lj 1191 0 #v[(3)]]])]
def Jt:FD:=⟨1,[],1,Gq⟩
noncomputable def Tu:ai:= #v[.ret (.comp 1 (.one 3) 'A' .no (.comp 3 (.many [4,5,6]) 'D' .no (.tup #v[.bin .add 'E' 'B',.bin .add 'F' 'C','G'])))]
def Jr:FD:=⟨3,[],3,Tu⟩
def qi:ai:= #v[.asg 3 false (.aO 'A' rZ #v['B']),.asg 4 false (.comp 1 (.one 10) 'D' (.yes (.cmp .eq (.sub 'K' (0)) (.con (.str mT)))) 'K'),.iff (.cmp .ne (.blt .len #v['E']) (.blt .len #v['C'])) #v[.stop] .nil,.eZ false [5,6] (.cons (.neg (1)) (.new .nil)),.bz (.one 7) 'D' #v[.iff (.cmp .eq (.sub 'H' (0)) (.con (.str mT))) #v[.eZ true [5,8] #v[.bin .add 'F' (1),.sub 'H' (1)],.asg 6 true (.lst .nil)] #v[.iff (.cmp .eq (.sub 'H' (0)) (.con (.str oi))) #v[.asg 9 false (.comp 3 (.many [10,11,12]) (.sub 'C' 'F') (.yes 'M') (.tup #v[.tup #v['K',(1)],.tup #v['L',(1)]])),.iff (.cv false #v[.cmp .ne 'I' (.sub (.sub 'E' 'F') (1)),.cmp .ne (.comp 1 (.one 10) 'J' (.yes (.cmp .kZ 'K' 'G')) 'K') (.lst .nil)]) #v[.stop] .nil] #v[.asg 8 false (.sub 'H' (.neg (1))),.app 6 'I']]],.ret (.con (.bool true))]
def Jq:FD:=⟨3,[],10,qi⟩
def gY:ai:= #v[.asg 1 true (.call zt 1184 #v['A',(0)]),.asg 2 false (.comp 1 (.one 21) (.blt .range #v[.bin .add (1) (.cz lj 1191 1 #v[(2)])]) .no (.cz vc 1210 1 .nil)),.asg 3 false (.comp 1 (.one 21) (.blt .range #v[(2)]) .no (.tup #v[.cz jf 1198 1 #v[.lst #v[(0),.neg (128),(127),(300)]],.cz jf 1198 1 #v[.lst #v[(0),(5),.neg (129)]]])),.asg 4 false (.lst #v[.call rS 770 #v[(1),.sub (.sub 'D' (0)) (0),.sub (.sub 'D' (0)) (1)],.call rS 770 #v[.blt .len #v['C'],.sub (.sub 'D' (1)) (0),.sub (.sub 'D' (1)) (1)]]),.asg 5 true (.bin .add (.lst #v[.call pF 1045 #v[(500),(0)]]) (.comp 1 (.one 21) 'C' .no (.call pF 1045 #v[.cz jf 1198 1 #v[.lst #v[(500),(0),(65535)]],.neg (3),'V']))),.app 5 (.call pF 1045 #v[(500),(9),.con .none,'E',.tup #v[(0),(0),(1),(1)]]),.asg 6 true (.bin .add (.lst #v[.lst .nil]) (.comp 1 (.one 21) 'C' .no (.attr 'V' cD))),.asg 7 false (.call vb 1215 #v[.sub 'G' (1),.sub (.sub 'D' (0)) (0),.sub (.sub 'D' (0)) (1)]),.app 6 (.bin .add 'H' (.call vb 1215 #v[.sub 'G' (.neg (1)),.sub (.sub 'D' (1)) (0),.sub (.sub 'D' (1)) (1)])),.asg 8 false (.aq #v[(32),(0),(65),(1),(66),.blt .len #v['C'],.cz jf 1198 1 #v[.lst #v[(67),(97),(40000)]],.bin .add (.blt .len #v['C']) (1)]),.asg 9 false (.fW (.lst #v[.tup #v[(1),(2),.neg (40)],.tup #v[(0),(1),(7)]]) .no (.yes (.cz lj 1191 1 #v[(3)]))),.asg 10 false (.cz jf 1198 1 #v[.lst #v[(4),(12)]]),.eZ true [11,12] #v[.cz jf 1198 1 #v[.lst #v[(16),(1000)]],.cmp .eq (.cz lj 1191 1 #v[(2)]) (0)],.asg 13 false (.call zl 1069 #v['F','I',.lst #v[.tup #v[(3),(1),'K']],'J','L','M',.tup #v[(8),.neg (2),(1)]]),.asg 14 false (.call y3 1173 #v[.call zx 1086 #v['N']]),.iff (.cmp .ne (.tup #v[.aO 'O' cJ .nil,.aO 'O' bA .nil,.fW (.aO (.attr 'O' bg) iT .nil) .no (.yes (3))]) (.tup #v[.blt .len #v['F'],.attr 'N' bA,.tup #v[(8),.neg (2),(1)]])) #v[.stop] .nil,.bz (.one 15) (.lst #v[(32),(65),(66),(67),(68),(97),(40000)]) #v[.iff (.cmp .ne (.aO 'O' cO #v['P']) (.bm .get 'I' #v['P',(0)])) #v[.stop] .nil],.bz (.one 16) (.blt .range #v[.blt .len #v['F']]) #v[.asg 17 false (.aO 'O' bH #v['Q']),.iff (.cmp .ne (.comp 1 (.one 21) (.attr 'R' cD) .no (.blt .list #v['V'])) (.sub 'G' 'Q')) #v[.stop] .nil,.iff (.cv true #v[.cmp .hN (.attr (.sub 'F' 'Q') bH) (.con .none),.cmp .ne (.attr 'R' dz) (.attr (.attr (.sub 'F' 'Q') bH) dz)]) #v[.stop] .nil,.iff (.cmp .ne (.tup #v[.aO 'O' cN #v['Q'],.aO 'O' cT #v['Q']]) (.tup #v[.attr (.sub 'F' 'Q') cN,.attr (.sub 'F' 'Q') cT])) #v[.stop] .nil],.asg 18 false (.blt .dict #v[.comp 3 (.many [21,22,23]) 'J' .no (.tup #v[.tup #v['V','W'],'X'])]),.bz (.many [19,20]) (.lst #v[.tup #v[(0),(1)],.tup #v[(1),(2)],.tup #v[(2),(1)]]) #v[.iff (.cmp .ne (.aO 'O' gp #v['T','U']) (.bm .get 'S' #v[.tup #v['T','U'],(0)])) #v[.stop] .nil],.ret (.call zq 1220 #v['O',(1),.sub 'G' (1)])]
def JH:FD:=⟨1,[],21,gY⟩
def o9:List (Addr×FD×List Str):=
 [(72,Kc,[aH,bF]),
  (79,J4,[aH,bF,cU]),
  (86,Kd,[aH,bF]),
  (93,JO,[lS]),
  (100,JP,[lS]),
  (107,JL,[aH,bF,ig]),
  (114,JE,[aH]),
  (121,J9,[aH,aiN,Oq,bF]),
  (128,Kb,[aH,bF,cU,aiD]),
  (133,ZN,[gv]),
  (147,Zx,[bM,cu]),
  (154,Jo,[bM]),
  (161,BU,[bM,gv]),
  (168,Jn,[bM,gv]),
  (189,Ze,[bM,gv,lV,gq,ig]),
  (203,JU,[aH,cU,lS,bF,iT]),
  (210,J3,[aH,cU,iT]),
  (217,JN,[aH]),
  (224,Ka,[gv,aH]),
  (231,B8,[cJ,vo,Ef]),
  (238,JD,[bE,fE,cJ,vo,Ef,cU,gv,aH]),
  (245,Ki,[bE,fE,bF,gv,cU,aH,aif,gq]),
  (315,Zz,[cx,mS,Oc,Oa,NZ]),
  (327,Zw,[bM,aH,ku,iO,bF]),
  (334,Zv,[bM,mS,bF,cO]),
  (353,Zh,[bM,aH,ku,bF]),
  (360,Zg,[bM,mS,bF]),
  (374,ZH,[aH,zF]),
  (379,ZJ,[aH]),
  (386,ZF,[aH,cu,ail,Og,NV,gq]),
  (405,ZK,[dm,cU,mS]),
  (412,ZC,[dm,fA,Eg,mS]),
  (417,ZS,[dm,aiH,ku,jg,jh,aiz,bF,fA,Eg,mS,cx,d8,vo,bq,ain]),
  (424,Zy,[vo,cU]),
  (429,ZR,[dm,cu,mS,cU]),
  (436,ZU,[zF,dm]),
  (443,ZQ,[cu,cU,gq,dY,Og,NV,aH]),
  (458,Zi,[bM,bA,cw,bL,eX,jj]),
  (479,B0,[aH,bA,cw,zF]),
  (486,Kf,[bq,cU,lS]),
  (493,JS,[aH]),
  (500,Kh,[cJ,gr,cD,aiu,Od,cU,lS]),
  (514,Zm,[bM,iN,iP,iR,cJ]),
  (521,Zn,[bM]),
  (535,JX,[aH]),
  (542,Kg,[bg,Ot,cU]),
  (549,BY,[Ei,Ej,fA,gu]),
  (557,BZ,[Oo,aio,air]),
  (572,Zs,[bM,cD,dz]),
  (579,Jm,[bM,cU,vf]),
  (586,Jl,[bM,cU,bF,vf]),
  (596,BS,[bM,gr,Ee,Ek]),
  (610,JB,[gr,cx,cU,iO,NW]),
  (615,JJ,[cD,Aw,Ax]),
  (634,J8,[Oh]),
  (641,JI,[Ei,Ej]),
  (648,BW,[vf]),
  (655,JA,[vf,aiK,gr,cU,ais,Oh]),
  (662,J5,[bH,cU,vf]),
  (669,JY,[aH,bL,cJ,ig,cU,lS,gq]),
  (683,Zr,[bM,aH]),
  (690,Jh,[bM]),
  (697,Jk,[bM]),
  (704,Jj,[bM]),
  (711,Ji,[bM,ig]),
  (725,JW,[aH,cJ,cU,NX,ku]),
  (732,JT,[aH,eX,Ol,Oi,cU,bF,NX,Om]),
  (739,JV,[aH,ku,cU,lS,NW]),
  (744,J1,[aH,ku,cx,dz,cJ,eX,Ee,Ek,gr]),
  (760,Zt,[bM,cO,fA,gu,iS,gQ]),
  (781,J0,[aH,eX,Ei,Ej,aiM]),
  (788,J6,[lS]),
  (795,JR,[aH,eX,iS,fA,gu]),
  (802,JZ,[aH,cU,eX,cO,fA,gu,dz]),
  (816,Zf,[bM,aH,fE]),
  (823,Jf,[bM]),
  (830,Jg,[bM,cO]),
  (846,tP,[bM,cO,aie,aH,ku,fB,dz,cD,mU,Ob]),
  (860,JM,[mU,Ob,aiE,cU,aiw,aiA,aih,aiG]),
  (867,Jw,[Om,Ol,Oi]),
  (874,JF,[eX,cU,bF,ku]),
  (879,Jx,[cw]),
  (884,J7,[bH,eX,Ee,Ek,Aw,Ax,NT,NU,Oe,aiP,aiQ,aiR,aiS,cx,Ag]),
  (891,ZL,[gQ,NT,NU,q_c,q_d]),
  (898,Jv,[mU,fA,gu]),
  (906,Jz,[fB,cw,dz,cU,bF,aii,aij,aiI,gQ,eX]),
  (913,Ke,[cu,bL,ck,fE,aH,Ag,gq]),
  (927,Zq,[bM,ko,kq]),
  (934,Zo,[bM,cO]),
  (941,Zp,[bM,cO]),
  (953,ZI,[aH,ku,cJ,ko,kq,bF]),
  (960,ZO,[ko,ku]),
  (965,ZV,[cu,ku,cU,bF,cN,cT]),
  (979,Zj,[bM,cu]),
  (986,Zk,[bM,vk,vu,Oc,Oa,NZ]),
  (1000,ZE,[aH,cu,bF,gq]),
  (1005,ZG,[aH,cU,bF,lS,ig,vk,vu,oq]),
  (1012,ZT,[cu,Ag,vo,Ef,cU,vk,vu,oq]),
  (1028,Zl,[bM,cN,cT,bH,fB,cw]),
  (1035,o7,[bM]),
  (1042,o8,[bM]),
  (1066,Zu,[bM,dg,dm,dY,bC,bA,bL,bg]),
  (1080,B9,[dg,cU,aiy,cw]),
  (1086,Jy,[Of,aiB,cu,ck,fE,dZ,ku,aiJ,iN,iP,iR,Ot]),
  (1093,JG,[Od,cU,lS]),
  (1107,Ja,[bM,aH,cJ,fE]),
  (1114,Je,[bM]),
  (1121,I8,[bM]),
  (1128,I9,[bM,mS,cU]),
  (1135,Jc,[bM,cO]),
  (1142,Jd,[bM,cO]),
  (1149,I6,[bM,cO]),
  (1156,I7,[bM,cO]),
  (1163,Jb,[bM,vk,vu]),
  (1184,tQ,[Oj,q_k,aiq,zw]),
  (1191,BV,[vx,Oo,aiv]),
  (1198,Js,[vx,aiL]),
  (1205,Jp,[vx,cU,Aw,Ax,aiO]),
  (1210,Jt,[vx]),
  (1215,Jr,[cD,Aw,Ax]),
  (1220,Jq,[NY,cO,cD,cu,aik,bF,cx,iT,Eg,Oe]),
  (1225,JH,[Oj,vx,aiF,aiC,fB,dg,cD,Oq,dm,bC,zF,bA,bL,Of,NY,mS,cO,Ag,aim,vk,vu])]
noncomputable def ya:List (Addr×Addr):=
 [(171,147),
  (192,189),
  (337,327),
  (363,353),
  (468,458),
  (524,514),
  (599,572),
  (714,683),
  (770,760),
  (849,816),
  (944,927),
  (989,979),
  (1045,1028),
  (1069,1066),
  (1173,1107)]
noncomputable def VE:List Addr:=[147,189,327,353,458,514,572,683,690,697,704,711,725,732,739,744,760,781,795,802,816,927,979,1028,1066,1107,1191,1198,1205,1210]
def yL:List (Addr×List (Str×Addr)):=
 [(171,[(mV,154),(rY,161),(iU,168)]),
  (337,[(iQ,334)]),
  (363,[(iQ,360)]),
  (524,[(iT,521)]),
  (599,[(gr,579),(cx,586),(cw,596)]),
  (714,[(mR,690),(ot,697),(om,704),(mU,711)]),
  (849,[(cJ,823),(vj,830),(bH,846)]),
  (944,[(cN,934),(cT,941)]),
  (989,[(oq,986)]),
  (1045,[(aH,1035),(gr,1042)]),
  (1173,[(bA,1114),(cJ,1121),(cO,1128),(bH,1135),(rZ,1142),(cN,1149),(cT,1156),(gp,1163)])]
def wA:List (Addr×List Str):=
 [(171,[cu]),
  (192,[gv,lV,gq,ig]),
  (337,[aH,cx,d8,jg,iO,jh]),
  (363,[d8,cx,ck]),
  (468,[bA,cw,bL,eX,jj]),
  (524,[iN,iP,iR,cJ]),
  (599,[cD,dz]),
  (714,[aH,bF]),
  (770,[cO,fA,gu,iS,gQ]),
  (849,[aH,fE]),
  (944,[ko,kq]),
  (989,[cu]),
  (1045,[cN,cT,bH,fB,cw]),
  (1069,[dg,dm,dY,bC,bA,bL,bg]),
  (1173,[bE,bq,bg,ck,d7,dZ,bC])]
def ag:qb:=⟨⟨fun f=>VE.contains f,fun c x=>(yL.lookup c).bind (·.lookup x),fun c x=>(wA.lookup c).any (·.contains x)⟩,fun f=>(o9.lookup f).map (·.1),fun c=>ya.lookup c⟩
end
section
noncomputable abbrev pg:Program:=PySem.Challenge.pw_nu0040_01
def bu:List Stmt:=pg.main.body
def zS(n:Nat):Stmt:=bu.getD n default
noncomputable def fD{α:Type}(f:Arguments→List Stmt→Scope→α)(d:α)(t:Stmt):α:=
 if h:t.ctorIdx=0 then @Stmt.FunctionDef.elim (fun _=>α) t h fun _ a b _ _ _ s _ _ _=>f a b s else d
def Et(t:Stmt):List Stmt:=fD (fun _ b _=>b) (if h:t.ctorIdx=2 then @Stmt.ClassDef.elim (fun _=>List Stmt) t h fun _ _ _ b _ _ _ _ _ _ _=>b else []) t
def ON:Stmt→Arguments:=fD (fun a _ _=>a) ⟨[],[],none,[],[],none,[]⟩
def OP:Stmt→Scope:=fD (fun _ _ s=>s) default
def zM(n j:Nat):Stmt:=(Et (zS n)).getD j default
noncomputable abbrev zr(a:Nat):Value:=.ref a
noncomputable abbrev zi(x:Int)(t:Nat):Value:=.int x t
noncomputable abbrev zs(x:String)(t:Nat):Value:=.str (Str.ofString x) t
noncomputable abbrev tup(l:List Value):Obj:=⟨.type "tuple",none,.seq l.toArray 0,#[]⟩
noncomputable abbrev tT(c:Value)(l:List Value):Obj:=⟨c,none,.fields l.toArray,#[]⟩
abbrev fld(l:List Value):Obj:=tT .none l
abbrev iY(a b:String)(t:Nat)(l ac fl:Int)(tp:Nat)(bb:Bool)(n1 n2 n3:Value)(t4:Nat):Obj:=
 tT (.type "code") [zs a t,zs b (t+1),zs "/claim/cut.py" (t+2),zi l 0,zi ac 0,zi 0 0,zi 0 0,zi fl 0,zr tp,.bool bb,zi 181 0,zr (tp+1),.none,n1,n2,n3,zi t4 0,zi l 0,zs "/claim/cut.py" (t4+1)]
noncomputable abbrev pln(c:Value)(d:Option Addr)(sl:Array (Option Value)):Obj:=⟨c,d,.plain,sl⟩
noncomputable abbrev aq(c:Value)(l:List DictEntry)(n:Nat):Obj:=⟨c,none,.dict l.toArray n,#[]⟩
noncomputable abbrev ze(P:Params)(k:Str)(t:Nat)(v:Value):DictEntry:=⟨PyData.keyHash P k,.str k t,v⟩
noncomputable abbrev ed(d:Option Addr)(sl:Array (Option Value))(n:String)(bs mro:List Value)(ns:Addr)(q:String)(sub:List Value):Obj:=
 ⟨.type "type",d,.cls {name:=Str.ofString n,bases:=bs,mro:=mro,ns:=ns,qualname:=Str.ofString q,subclasses:=sub},sl⟩
abbrev fd(st:Stmt)(n q:String)(g:Nat)(df pm cd:Value)(b:Nat):FuncData:=
 {name:=Str.ofString n,qualname:=Str.ofString q,params:=ON st,body:=.stmts (Et st),scope:=OP st,globals:=g,closure:=[],defaults:=df,kwdefaults:=.none,pyModule:=pm,code:=cd,builtins:=b}
noncomputable abbrev jy(c:Value)(f:FuncData):Obj:=⟨c,none,.func f,#[]⟩
abbrev ff(a:Nat)(x m:String)(t c:Nat):Obj:=jy (.type "function") (fd (zS a) x x 3 .none (zs m t) (zr c) 0)
abbrev fz(a:Nat)(x:String):Obj:=jy .none (fd (zS a) x x 0 .none .none .none 0)
abbrev fm(a b:Nat)(x y m:String)(t c:Nat):Obj:=jy (.type "function") (fd (zM a b) x y 3 .none (zs m t) (zr c) 0)
abbrev fy(a b:Nat)(x y:String):Obj:=jy .none (fd (zM a b) x y 0 .none .none .none 0)
abbrev co(a:String):=iY a a
abbrev t_:Obj:=tup []
abbrev bf:=tT (.type "builtin_function_or_method")
abbrev gd:=tT (.type "getset_descriptor")
noncomputable def tz:List String→Nat→List Value
 |[],_=>[]
 |x::r,t=>zs x t::tz r (t+1)
abbrev tv(l:List String)(t:Nat):Obj:=tup (tz l t)
abbrev gy(t c:Nat):Obj:=gd [zs "__weakref__" t,zr c,.builtin "ExceptionGroup.__weakref__",.none]
abbrev gx(t c:Nat):Obj:=gd [zs "__dict__" t,zr c,.builtin "function.__dict__",.builtin "function.__dict__#set"]
abbrev fr(a b c:Nat)(m:String)(t:Nat):Obj:=pln (.type "frame") none #[some (zr a),some (zr b),some (zr c),none,some (zs m t),none,some (zr 0)]
abbrev su(a:Nat):Obj:=tT (.type "super") [zr a,zr a,zr a]
abbrev dd:=aq (.type "dict")
def f3(a:Nat)(x:String)(t:Nat)(l ac fl:Int)(tp t4:Nat)(m:String)(k:Nat)(R:List Obj):List Obj:=
 fz a x::iY x x t l ac fl tp true (zr (tp+2)) (zr (tp+3)) (zr (tp+4)) t4::ff a x m k (tp+5)::R
def m3(a b:Nat)(x y:String)(t:Nat)(l ac fl:Int)(tp t4:Nat)(m:String)(k:Nat)(R:List Obj):List Obj:=
 fy a b x y::iY x y t l ac fl tp true (zr (tp+2)) (zr (tp+3)) (zr (tp+4)) t4::fm a b x y m k (tp+5)::R
noncomputable abbrev cC:String:="outlinemill.cmap"
noncomputable abbrev kf:String:="outlinemill.errors"
noncomputable abbrev iK:String:="outlinemill.font"
noncomputable abbrev gh:String:="outlinemill.font_heads"
noncomputable abbrev iL:String:="outlinemill.font_writer"
noncomputable abbrev cI:String:="outlinemill.glyf"
noncomputable abbrev n7:String:="outlinemill.glyf_writer"
noncomputable abbrev fS:String:="outlinemill.metrics"
noncomputable abbrev gi:String:="outlinemill.outlines"
noncomputable abbrev de:String:="outlinemill.sfnt"
noncomputable def dF:BT→Nat→List Obj→BT
 |t,_,[]=>t
 |t,n,o::r=>dF (t.ins n o) (n+1) r
noncomputable def dP:BT→List (Nat×Obj)→BT
 |t,[]=>t
 |t,(a,o)::r=>dP (t.set a fun _=>o) r
noncomputable def k0:Str:=⟨#[95,95,100,111,99,95,95]⟩
noncomputable def k1:Str:=⟨#[95,95,112,97,99,107,97,103,101,95,95]⟩
noncomputable def k2:Str:=⟨#[95,95,108,111,97,100,101,114,95,95]⟩
noncomputable def k3:Str:=⟨#[95,95,115,112,101,99,95,95]⟩
noncomputable def k4:Str:=⟨#[95,95,97,110,110,111,116,97,116,105,111,110,115,95,95]⟩
noncomputable def k5:Str:=⟨#[95,95,98,117,105,108,116,105,110,115,95,95]⟩
noncomputable def k6:Str:=⟨#[95,95,102,105,108,101,95,95]⟩
noncomputable def k7:Str:=⟨#[95,95,99,97,99,104,101,100,95,95]⟩
noncomputable def k8:Str:=⟨#[95,95,109,111,100,117,108,101,95,95]⟩
noncomputable def k9:Str:=⟨#[95,95,113,117,97,108,110,97,109,101,95,95]⟩
noncomputable def cg:Str:=⟨#[95,95,102,105,114,115,116,108,105,110,101,110,111,95,95]⟩
noncomputable def cH:Str:=⟨#[95,95,105,110,105,116,95,95]⟩
noncomputable def bR:Str:=⟨#[95,95,115,116,97,116,105,99,95,97,116,116,114,105,98,117,116,101,115,95,95]⟩
noncomputable def gg:Str:=⟨#[95,95,119,101,97,107,114,101,102,95,95]⟩
noncomputable def LJ:Str:=⟨#[95,119,97,108,108]⟩
noncomputable def LL:Str:=⟨#[77,105,108,108,69,114,114,111,114]⟩
noncomputable def dM:Str:=⟨#[95,95,110,97,109,101,95,95]⟩
noncomputable def k17:Str:=⟨#[116,121,112,101,46,95,95,115,117,98,99,108,97,115,115,101,115,95,95,46,69,120,99,101,112,116,105,111,110,46,48]⟩
noncomputable def k18:Str:=⟨#[116,121,112,101,46,95,95,115,117,98,99,108,97,115,115,101,115,95,95,46,69,120,99,101,112,116,105,111,110,46,110]⟩
noncomputable def LN:Str:=⟨#[78,117,109,98,101,114,70,97,117,108,116]⟩
noncomputable def LP:Str:=⟨#[70,111,110,116,70,97,117,108,116]⟩
noncomputable def gK:Str:=⟨#[95,95,100,105,99,116,95,95]⟩
noncomputable def LQ:Str:=⟨#[66,121,116,101,77,97,112]⟩
noncomputable def LR:Str:=⟨#[84,114,105,109,109,101,100,77,97,112]⟩
noncomputable def LU:Str:=⟨#[119,114,105,116,101,95,102,111,114,109,97,116,95,48]⟩
noncomputable def LV:Str:=⟨#[119,114,105,116,101,95,102,111,114,109,97,116,95,54]⟩
noncomputable def LW:Str:=⟨#[115,99,97,108,101,100,95,110,117,109,98,101,114]⟩
noncomputable def LM:Str:=⟨#[112,114,111,103,114,97,109]⟩
noncomputable def acH:Str:=⟨#[108,97,119]⟩
def ahP:List Obj:=[t_,fld [],co "<module>" 182 1 0 0 11 false .none .none .none 185,fr 13 3 3 "__main__" 164]
def mB(P:Params):List DictEntry:=[ze P k0 166 .none,ze P k1 167 .none,ze P k2 168 (.builtin "__main__.__loader__#opaque"),ze P k3 169 .none,ze P k4 170 (zr 6),ze P k5 171 (zr 4),ze P k6 173 (zs "/claim/cut.py" 172),ze P k7 174 .none]
def MG(P:Params):List DictEntry:=mB P
noncomputable def sE0(P:Params):List DictEntry:=[]
noncomputable def UU:List Value:=[]
def t0(P:Params):BT:=dF .nil 0 ([boot_o_0 P,boot_o_1 P,boot_o_2 P,dd (ze P dM 165 (zs "__main__" 164)::MG P) 9,boot_o_4 P,boot_o_5 P,boot_o_6 P,boot_o_7 P,boot_o_8 P,boot_o_9 P,boot_o_10 P]++ahP)
def N0(P:Params):List Obj:=t_::fld []::tv ["k"] 190::t_::f3 0 "_wall" 187 1 1 3 15 191 "__main__" 164 (tup [.type "Exception"]::bf [.builtin "type.__prepare__",.type "type"]::dd [ze P k8 203 (zs kf 194),ze P k9 205 (zs "MillError" 204),ze P cg 207 (zi 5 206),ze P cH 215 (zr 35),ze P bR 217 (zr 36)] 5::t_::fld [zi 7 0,zi 4 0,zr 34]::co "MillError" 198 5 0 0 25 false .none .none .none 201::fr 27 3 24 kf 194::t_::fld []::tv ["self","message"] 211::t_::m3 2 0 "__init__" "MillError.__init__" 208 7 2 3 29 213 kf 194 (tv ["message"] 216::dd [ze P k8 203 (zs kf 194),ze P cg 207 (zi 5 206),ze P cH 215 (zr 35),ze P bR 217 (zr 36),ze P gg 219 (zr 39),ze P k0 220 .none] 3::ed none #[some (zr 22),none,some (zs "MillError" 196),some (zs "MillError" 204),some (.builtin "Exception.__new__"),some (.bool true)] "MillError" [.type "Exception"] [zr 38,.type "Exception",.type "BaseException",.type "object"] 37 "MillError" []::gy 218 38::su 38::bf [.builtin "object.__init_subclass__",zr 38]::[]))
def MH(P:Params):List DictEntry:=MG P++[ze P LJ 193 (zr 21),ze P LL 224 (zr 38)]
def Hw:List Value:=UU++[zi 1 0,zi 0 0,zr 20,zi 5 0,zi 0 0,zr 27]
def t1(P:Params):BT:=dP (dF (t0 P) 15 (N0 P)) [(3,dd (ze P dM 165 (zs kf 194)::MH P) 11),(2,aq .none [ze P k17 221 (zi 38 0),ze P k18 222 (zi 1 0)] 2),(12,fld Hw)]
def N1(P:Params):List Obj:=tup [zr 38]::bf [.builtin "type.__prepare__",.type "type"]::dd [ze P k8 232 (zs kf 194),ze P k9 234 (zs "NumberFault" 233),ze P cg 236 (zi 9 235),ze P bR 237 (zr 49)] 4::t_::fld []::co "NumberFault" 227 9 0 0 45 false .none .none .none 230::fr 47 3 44 kf 194::t_::dd [ze P k8 232 (zs kf 194),ze P cg 236 (zi 9 235),ze P bR 237 (zr 49),ze P k0 238 .none] 2::ed none #[some (zr 42),none,some (zs "NumberFault" 225),some (zs "NumberFault" 233),some (.builtin "Exception.__new__"),some (.bool true)] "NumberFault" [zr 38] [zr 51,zr 38,.type "Exception",.type "BaseException",.type "object"] 50 "NumberFault" []::su 51::bf [.builtin "object.__init_subclass__",zr 51]::[]
def MV(P:Params):List DictEntry:=MH P++[ze P LN 240 (zr 51)]
def HH:List Value:=Hw++[zi 9 0,zi 0 0,zr 47]
def t2(P:Params):BT:=dP (dF (t1 P) 42 (N1 P)) [(3,dd (ze P dM 165 (zs kf 194)::MV P) 12),(12,fld HH),(38,ed none #[some (zr 22),none,some (zs "MillError" 196),some (zs "MillError" 204),some (.builtin "Exception.__new__"),some (.bool true)] "MillError" [.type "Exception"] [zr 38,.type "Exception",.type "BaseException",.type "object"] 37 "MillError" [zr 51])]
def N2(P:Params):List Obj:=tup [zr 38]::bf [.builtin "type.__prepare__",.type "type"]::dd [ze P k8 248 (zs kf 194),ze P k9 250 (zs "FontFault" 249),ze P cg 252 (zi 11 251),ze P bR 253 (zr 61)] 4::t_::fld []::co "FontFault" 243 11 0 0 57 false .none .none .none 246::fr 59 3 56 kf 194::t_::dd [ze P k8 248 (zs kf 194),ze P cg 252 (zi 11 251),ze P bR 253 (zr 61),ze P k0 254 .none] 2::ed none #[some (zr 54),none,some (zs "FontFault" 241),some (zs "FontFault" 249),some (.builtin "Exception.__new__"),some (.bool true)] "FontFault" [zr 38] [zr 63,zr 38,.type "Exception",.type "BaseException",.type "object"] 62 "FontFault" []::su 63::bf [.builtin "object.__init_subclass__",zr 63]::t_::fld []::tv ["octets","at"] 276::t_::f3 12 "u16" 273 20 2 3 66 278 de 257 (t_::fld []::tv ["octets","at","found"] 284::t_::f3 13 "s16" 281 24 2 3 73 287 de 257 (t_::fld []::tv ["octets","at"] 293::t_::f3 14 "u32" 290 27 2 3 80 295 de 257 ([])))
def M4(P:Params):List DictEntry:=MV P++[ze P LP 256 (zr 63),ze P uY 262 (zi 4294967296 261),ze P uX 264 (zi 65536 263),ze P uN 266 (zi 12 265),ze P uV 268 (zi 16 267),ze P za 270 (zi 2981146554 269),ze P rT 272 (zi 8 271),ze P cV 280 (zr 72),ze P ji 289 (zr 79),ze P jk 297 (zr 86)]
def HP:List Value:=HH++[zi 11 0,zi 0 0,zr 59,zi 20 0,zi 0 0,zr 71,zi 24 0,zi 0 0,zr 78,zi 27 0,zi 0 0,zr 85]
def t3(P:Params):BT:=dP (dF (t2 P) 54 (N2 P)) [(3,dd (ze P dM 165 (zs de 257)::M4 P) 22),(12,fld HP),(38,ed none #[some (zr 22),none,some (zs "MillError" 196),some (zs "MillError" 204),some (.builtin "Exception.__new__"),some (.bool true)] "MillError" [.type "Exception"] [zr 38,.type "Exception",.type "BaseException",.type "object"] 37 "MillError" [zr 51,zr 63])]
def N3(P:Params):List Obj:=t_::fld []::tv ["number"] 301::t_::f3 15 "put16" 298 29 1 3 87 302 de 257 (t_::fld []::tv ["number"] 308::t_::f3 16 "put32" 305 31 1 3 94 309 de 257 (t_::fld []::tv ["octets","at","size"] 315::t_::f3 17 "part_of" 312 33 3 3 101 318 de 257 (t_::fld []::tv ["octets"] 324::t_::f3 18 "filled" 321 37 1 3 108 325 de 257 (t_::fld []::tv ["octets","total","whole","at"] 331::t_::f3 19 "sum_of" 328 39 1 3 115 335 de 257 (t_::fld []::tv ["octets","at","found","octet"] 341::t_::f3 20 "tag_of" 338 45 2 3 122 345 de 257 (t_::fld []::fz 21 "tag_octets"::co "tag_octets" 348 52 1 3 129 true .none .none (zr 131) 351::ff 21 "tag_octets" de 257 132::[]))))))
def M5(P:Params):List DictEntry:=M4 P++[ze P aP 304 (zr 93),ze P eY 311 (zr 100),ze P lT 320 (zr 107),ze P pI 327 (zr 114),ze P vy 337 (zr 121),ze P Af 347 (zr 128),ze P Ae 353 (zr 133)]
def HQ:List Value:=HP++[zi 29 0,zi 0 0,zr 92,zi 31 0,zi 0 0,zr 99,zi 33 0,zi 0 0,zr 106,zi 37 0,zi 0 0,zr 113,zi 39 0,zi 0 0,zr 120,zi 45 0,zi 0 0,zr 127,zi 52 0,zi 0 0,zr 132]
def t4(P:Params):BT:=dP (dF (t3 P) 87 (N3 P)) [(3,dd (ze P dM 165 (zs de 257)::M5 P) 29),(12,fld HQ)]
def N4(P:Params):List Obj:=t_::bf [.builtin "type.__prepare__",.type "type"]::dd [ze P k8 361 (zs de 257),ze P k9 363 (zs "Tables" 362),ze P cg 365 (zi 56 364),ze P cH 373 (zr 147),ze P mV 380 (zr 154),ze P rY 388 (zr 161),ze P iU 396 (zr 168),ze P bR 398 (zr 169)] 8::t_::fld [zi 58 0,zi 4 0,zr 146,zi 61 0,zi 4 0,zr 153,zi 64 0,zi 4 0,zr 160,zi 67 0,zi 4 0,zr 167]::co "Tables" 356 56 0 0 137 false .none .none .none 359::fr 139 3 136 de 257::t_::fld []::tv ["self","rows"] 369::t_::m3 22 0 "__init__" "Tables.__init__" 366 58 2 3 141 371 de 257 (t_::fld []::tv ["self"] 377::t_::m3 22 1 "tags" "Tables.tags" 374 61 1 3 148 378 de 257 (t_::fld []::tv ["self","tag"] 384::t_::m3 22 2 "has" "Tables.has" 381 64 2 3 155 386 de 257 (t_::fld []::tv ["self","tag"] 392::t_::m3 22 3 "table" "Tables.table" 389 67 2 3 162 394 de 257 (tv ["rows"] 397::dd [ze P k8 361 (zs de 257),ze P cg 365 (zi 56 364),ze P cH 373 (zr 147),ze P mV 380 (zr 154),ze P rY 388 (zr 161),ze P iU 396 (zr 168),ze P bR 398 (zr 169),ze P gK 400 (zr 172),ze P gg 402 (zr 173),ze P k0 403 .none] 4::ed none #[none,none,some (zs "Tables" 354),some (zs "Tables" 362),some (.builtin "object.__new__"),some (.bool true)] "Tables" [.type "object"] [zr 171,.type "object"] 170 "Tables" []::gx 399 171::gy 401 171::su 171::bf [.builtin "object.__init_subclass__",zr 171]::[]))))
def M6(P:Params):List DictEntry:=M5 P++[ze P uW 405 (zr 171)]
def HR:List Value:=HQ++[zi 56 0,zi 0 0,zr 139]
def t5(P:Params):BT:=dP (dF (t4 P) 134 (N4 P)) [(3,dd (ze P dM 165 (zs de 257)::M6 P) 30),(12,fld HR)]
def N5(P:Params):List Obj:=t_::bf [.builtin "type.__prepare__",.type "type"]::dd [ze P k8 413 (zs de 257),ze P k9 415 (zs "DirectoryRow" 414),ze P cg 417 (zi 71 416),ze P cH 428 (zr 189),ze P bR 433 (zr 190)] 5::t_::fld [zi 73 0,zi 4 0,zr 188]::co "DirectoryRow" 408 71 0 0 179 false .none .none .none 411::fr 181 3 178 de 257::t_::fld []::tv ["self","tag","told_sum","place","size"] 421::t_::m3 23 0 "__init__" "DirectoryRow.__init__" 418 73 5 3 183 426 de 257 (tv ["place","size","tag","told_sum"] 429::dd [ze P k8 413 (zs de 257),ze P cg 417 (zi 71 416),ze P cH 428 (zr 189),ze P bR 433 (zr 190),ze P gK 435 (zr 193),ze P gg 437 (zr 194),ze P k0 438 .none] 4::ed none #[none,none,some (zs "DirectoryRow" 406),some (zs "DirectoryRow" 414),some (.builtin "object.__new__"),some (.bool true)] "DirectoryRow" [.type "object"] [zr 192,.type "object"] 191 "DirectoryRow" []::gx 434 192::gy 436 192::su 192::bf [.builtin "object.__init_subclass__",zr 192]::t_::fld []::tv ["octets","found","number","at","row"] 444::t_::f3 24 "read_directory" 441 78 1 3 197 449 de 257 (t_::fld []::tv ["octets","found","row"] 455::t_::f3 25 "read_tables" 452 89 1 3 204 458 de 257 (t_::fld []::tv ["octets"] 464::t_::f3 26 "plain_head" 461 96 1 3 211 465 de 257 (t_::fld []::tv ["tag","octets"] 471::t_::f3 27 "sum_of_table" 468 98 2 3 218 473 de 257 (t_::fld []::tv ["count","power","exponent"] 479::t_::f3 28 "steps_of" 476 100 1 3 225 482 de 257 ([]))))))
def M7(P:Params):List DictEntry:=M6 P++[ze P yY 440 (zr 192),ze P zO 451 (zr 203),ze P z7 460 (zr 210),ze P vn 467 (zr 217),ze P Ad 475 (zr 224),ze P Ac 484 (zr 231)]
def HT:List Value:=HR++[zi 71 0,zi 0 0,zr 181,zi 78 0,zi 0 0,zr 202,zi 89 0,zi 0 0,zr 209,zi 96 0,zi 0 0,zr 216,zi 98 0,zi 0 0,zr 223,zi 100 0,zi 0 0,zr 230]
def t6(P:Params):BT:=dP (dF (t5 P) 176 (N5 P)) [(3,dd (ze P dM 165 (zs de 257)::M7 P) 36),(12,fld HT)]
def N6(P:Params):List Obj:=t_::fld []::tv ["tables","places","count","power","exponent","found","tag","octets"] 488::t_::f3 29 "directory_octets" 485 107 2 3 232 496 de 257 (t_::fld []::tv ["tables","places","at","tag","found","octets","adjustment","place"] 502::t_::f3 30 "write_tables" 499 115 1 3 239 510 de 257 (tup [zi 3 517,zi 10 518]::tup [zi 0 519,zi 4 520]::tup [zi 0 521,zi 3 522]::tup [zi 3 523,zi 1 524]::tup [zi 0 525,zi 1 526]::tup [zi 0 527,zi 0 528]::tup [zi 3 529,zi 0 530]::tup [zi 1 531,zi 0 532]::tup [zr 246,zr 247,zr 248,zr 249,zr 250,zr 251,zr 252,zr 253]::t_::bf [.builtin "type.__prepare__",.type "type"]::dd [ze P k8 541 (zs cC 513),ze P k9 543 (zs "ByteMap" 542),ze P cg 545 (zi 133 544),ze P cH 553 (zr 268),ze P iQ 561 (zr 275),ze P bR 563 (zr 276)] 6::t_::fld [zi 135 0,zi 4 0,zr 267,zi 138 0,zi 4 0,zr 274]::co "ByteMap" 536 133 0 0 258 false .none .none .none 539::fr 260 3 257 cC 513::t_::fld []::tv ["self","octets"] 549::t_::m3 34 0 "__init__" "ByteMap.__init__" 546 135 2 3 262 551 cC 513 (t_::fld []::tv ["self","code"] 557::t_::m3 34 1 "find" "ByteMap.find" 554 138 2 3 269 559 cC 513 (tv ["glyphs"] 562::dd [ze P k8 541 (zs cC 513),ze P cg 545 (zi 133 544),ze P cH 553 (zr 268),ze P iQ 561 (zr 275),ze P bR 563 (zr 276),ze P gK 565 (zr 279),ze P gg 567 (zr 280),ze P k0 568 .none] 4::ed none #[none,none,some (zs "ByteMap" 534),some (zs "ByteMap" 542),some (.builtin "object.__new__"),some (.bool true)] "ByteMap" [.type "object"] [zr 278,.type "object"] 277 "ByteMap" []::gx 564 278::gy 566 278::su 278::bf [.builtin "object.__init_subclass__",zr 278]::[]))))
def M8(P:Params):List DictEntry:=M7 P++[ze P zC 498 (zr 238),ze P Av 512 (zr 245),ze P rQ 516 (zi 65535 515),ze P yX 533 (zr 254),ze P LQ 570 (zr 278)]
def HU:List Value:=HT++[zi 107 0,zi 0 0,zr 237,zi 115 0,zi 0 0,zr 244,zi 133 0,zi 0 0,zr 260]
def t7(P:Params):BT:=dP (dF (t6 P) 232 (N6 P)) [(3,dd (ze P dM 165 (zs cC 513)::M8 P) 41),(12,fld HU)]
def N7(P:Params):List Obj:=t_::bf [.builtin "type.__prepare__",.type "type"]::dd [ze P k8 578 (zs cC 513),ze P k9 580 (zs "TrimmedMap" 579),ze P cg 582 (zi 140 581),ze P cH 588 (zr 294),ze P iQ 597 (zr 301),ze P bR 600 (zr 302)] 6::t_::fld [zi 142 0,zi 4 0,zr 293,zi 146 0,zi 4 0,zr 300]::co "TrimmedMap" 573 140 0 0 286 false .none .none .none 576::fr 288 3 285 cC 513::t_::fld []::fy 35 0 "__init__" "TrimmedMap.__init__"::iY "__init__" "TrimmedMap.__init__" 583 142 2 3 290 true .none .none (zr 292) 586::fm 35 0 "__init__" "TrimmedMap.__init__" cC 513 293::t_::fld []::tv ["self","code","at"] 592::t_::m3 35 1 "find" "TrimmedMap.find" 589 146 2 3 295 595 cC 513 (tv ["first","glyphs"] 598::dd [ze P k8 578 (zs cC 513),ze P cg 582 (zi 140 581),ze P cH 588 (zr 294),ze P iQ 597 (zr 301),ze P bR 600 (zr 302),ze P gK 602 (zr 305),ze P gg 604 (zr 306),ze P k0 605 .none] 4::ed none #[none,none,some (zs "TrimmedMap" 571),some (zs "TrimmedMap" 579),some (.builtin "object.__new__"),some (.bool true)] "TrimmedMap" [.type "object"] [zr 304,.type "object"] 303 "TrimmedMap" []::gx 601 304::gy 603 304::su 304::bf [.builtin "object.__init_subclass__",zr 304]::t_::fld []::tv ["ends","code","low","high","half"] 611::t_::f3 36 "first_from" 608 149 2 3 309 616 cC 513 ([]))
def M9(P:Params):List DictEntry:=M8 P++[ze P LR 607 (zr 304),ze P vg 618 (zr 315)]
def HW:List Value:=HU++[zi 140 0,zi 0 0,zr 288,zi 149 0,zi 0 0,zr 314]
def t8(P:Params):BT:=dP (dF (t7 P) 283 (N7 P)) [(3,dd (ze P dM 165 (zs cC 513)::M9 P) 43),(12,fld HW)]
def N8(P:Params):List Obj:=t_::bf [.builtin "type.__prepare__",.type "type"]::dd [ze P k8 626 (zs cC 513),ze P k9 628 (zs "SegmentMap" 627),ze P cg 630 (zi 159 629),ze P cH 636 (zr 327),ze P iQ 646 (zr 334),ze P bR 653 (zr 335)] 6::t_::fld [zi 161 0,zi 4 0,zr 326,zi 174 0,zi 4 0,zr 333]::co "SegmentMap" 621 159 0 0 319 false .none .none .none 624::fr 321 3 318 cC 513::t_::fld []::fy 37 0 "__init__" "SegmentMap.__init__"::iY "__init__" "SegmentMap.__init__" 631 161 2 3 323 true .none .none (zr 325) 634::fm 37 0 "__init__" "SegmentMap.__init__" cC 513 326::t_::fld []::tv ["self","code","at","glyph"] 640::t_::m3 37 1 "find" "SegmentMap.find" 637 174 2 3 328 644 cC 513 (tv ["begin","deltas","ends","octets","offsets","starts"] 647::dd [ze P k8 626 (zs cC 513),ze P cg 630 (zi 159 629),ze P cH 636 (zr 327),ze P iQ 646 (zr 334),ze P bR 653 (zr 335),ze P gK 655 (zr 338),ze P gg 657 (zr 339),ze P k0 658 .none] 4::ed none #[none,none,some (zs "SegmentMap" 619),some (zs "SegmentMap" 627),some (.builtin "object.__new__"),some (.bool true)] "SegmentMap" [.type "object"] [zr 337,.type "object"] 336 "SegmentMap" []::gx 654 337::gy 656 337::su 337::bf [.builtin "object.__init_subclass__",zr 337]::[])
def Na(P:Params):List DictEntry:=M9 P++[ze P zo 660 (zr 337)]
def HX:List Value:=HW++[zi 159 0,zi 0 0,zr 321]
def t9(P:Params):BT:=dP (dF (t8 P) 316 (N8 P)) [(3,dd (ze P dM 165 (zs cC 513)::Na P) 44),(12,fld HX)]
def N9(P:Params):List Obj:=t_::bf [.builtin "type.__prepare__",.type "type"]::dd [ze P k8 668 (zs cC 513),ze P k9 670 (zs "GroupMap" 669),ze P cg 672 (zi 182 671),ze P cH 678 (zr 353),ze P iQ 687 (zr 360),ze P bR 691 (zr 361)] 6::t_::fld [zi 184 0,zi 4 0,zr 352,zi 195 0,zi 4 0,zr 359]::co "GroupMap" 663 182 0 0 345 false .none .none .none 666::fr 347 3 344 cC 513::t_::fld []::fy 38 0 "__init__" "GroupMap.__init__"::iY "__init__" "GroupMap.__init__" 673 184 2 3 349 true .none .none (zr 351) 676::fm 38 0 "__init__" "GroupMap.__init__" cC 513 352::t_::fld []::tv ["self","code","at"] 682::t_::m3 38 1 "find" "GroupMap.find" 679 195 2 3 354 685 cC 513 (tv ["ends","glyphs","starts"] 688::dd [ze P k8 668 (zs cC 513),ze P cg 672 (zi 182 671),ze P cH 678 (zr 353),ze P iQ 687 (zr 360),ze P bR 691 (zr 361),ze P gK 693 (zr 364),ze P gg 695 (zr 365),ze P k0 696 .none] 4::ed none #[none,none,some (zs "GroupMap" 661),some (zs "GroupMap" 669),some (.builtin "object.__new__"),some (.bool true)] "GroupMap" [.type "object"] [zr 363,.type "object"] 362 "GroupMap" []::gx 692 363::gy 694 363::su 363::bf [.builtin "object.__init_subclass__",zr 363]::t_::fld []::tv ["octets","form"] 702::t_::f3 39 "read_map" 699 200 1 3 368 704 cC 513 (t_::fld []::fz 40 "read_rows"::co "read_rows" 707 211 1 3 375 true .none .none (zr 377) 710::ff 40 "read_rows" cC 513 378::t_::fld []::tv ["octets","rows","best","platform","encoding","place"] 716::t_::f3 41 "read_cmap" 713 213 1 3 380 722 cC 513 (t_::fld []::fz 42 "write_format_0"::co "write_format_0" 725 222 1 3 387 true .none .none (zr 389) 728::ff 42 "write_format_0" cC 513 390::[])))
def MI(P:Params):List DictEntry:=Na P++[ze P y6 698 (zr 363),ze P zW 706 (zr 374),ze P zZ 712 (zr 379),ze P zL 724 (zr 386),ze P LU 730 (zr 391)]
def Hx:List Value:=HX++[zi 182 0,zi 0 0,zr 347,zi 200 0,zi 0 0,zr 373,zi 211 0,zi 0 0,zr 378,zi 213 0,zi 0 0,zr 385,zi 222 0,zi 0 0,zr 390]
def EG(P:Params):BT:=dP (dF (t9 P) 342 (N9 P)) [(3,dd (ze P dM 165 (zs cC 513)::MI P) 49),(12,fld Hx)]
def Qw(P:Params):List Obj:=t_::fld []::tv ["codes","known","first","last","found","code"] 734::t_::f3 43 "write_format_6" 731 225 1 3 392 740 cC 513 (t_::fld []::tv ["codes","found","code"] 746::t_::f3 44 "runs_of" 743 233 1 3 399 749 cC 513 (t_::fld []::tv ["codes","first","last","code"] 755::t_::f3 45 "is_even_run" 752 241 3 3 406 759 cC 513 (t_::fld []::fz 46 "write_format_4"::co "write_format_4" 762 246 1 3 413 true .none .none (zr 415) 765::ff 46 "write_format_4" cC 513 416::t_::fld []::tv ["power","found"] 771::t_::f3 47 "exponent_of" 768 268 1 3 418 773 cC 513 (t_::fld []::fz 48 "write_format_12"::co "write_format_12" 776 274 1 3 425 true .none .none (zr 427) 779::ff 48 "write_format_12" cC 513 428::t_::fld []::tv ["form","codes"] 785::t_::f3 49 "write_map" 782 283 2 3 430 787 cC 513 (t_::fld []::tv ["rows","found","place","maps","platform","encoding","octets"] 793::t_::f3 50 "write_cmap" 790 293 1 3 437 800 cC 513 ([]))))))
def MJ(P:Params):List DictEntry:=MI P++[ze P LV 742 (zr 398),ze P z8 751 (zr 405),ze P zG 761 (zr 412),ze P Am 767 (zr 417),ze P zD 775 (zr 424),ze P Al 781 (zr 429),ze P Ar 789 (zr 436),ze P Ak 802 (zr 443),ze P y7 806 (zi 54 805),ze P uR 808 (zi 1594834165 807),ze P y9 810 (zi 16 809),ze P zg 812 (zi 16384 811)]
def Hy:List Value:=Hx++[zi 225 0,zi 0 0,zr 397,zi 233 0,zi 0 0,zr 404,zi 241 0,zi 0 0,zr 411,zi 246 0,zi 0 0,zr 416,zi 268 0,zi 0 0,zr 423,zi 274 0,zi 0 0,zr 428,zi 283 0,zi 0 0,zr 435,zi 293 0,zi 0 0,zr 442]
def EH(P:Params):BT:=dP (dF (EG P) 392 (Qw P)) [(3,dd (ze P dM 165 (zs gh 803)::MJ P) 61),(12,fld Hy)]
def Qx(P:Params):List Obj:=t_::bf [.builtin "type.__prepare__",.type "type"]::dd [ze P k8 820 (zs gh 803),ze P k9 822 (zs "Head" 821),ze P cg 824 (zi 306 823),ze P cH 838 (zr 458),ze P iT 845 (zr 465),ze P bR 851 (zr 466)] 6::t_::fld [zi 308 0,zi 4 0,zr 457,zi 315 0,zi 4 0,zr 464]::co "Head" 815 306 0 0 447 false .none .none .none 818::fr 449 3 446 gh 803::tup [zi 0 825,zi 0 826]::t_::fld []::tv ["self","units","box","is_long","flags","style"] 830::t_::fy 56 0 "__init__" "Head.__init__"::iY "__init__" "Head.__init__" 827 308 6 3 452 true (zr 454) (zr 455) (zr 456) 836::jy (.type "function") (fd (zM 56 0) "__init__" "Head.__init__" 3 (zr 451) (zs gh 803) (zr 457) 0)::t_::fld []::tv ["self"] 842::t_::m3 56 1 "row" "Head.row" 839 315 1 3 459 843 gh 803 (tv ["box","flags","is_long","style","units"] 846::dd [ze P k8 820 (zs gh 803),ze P cg 824 (zi 306 823),ze P cH 838 (zr 458),ze P iT 845 (zr 465),ze P bR 851 (zr 466),ze P gK 853 (zr 469),ze P gg 855 (zr 470),ze P k0 856 .none] 4::ed none #[none,none,some (zs "Head" 813),some (zs "Head" 821),some (.builtin "object.__new__"),some (.bool true)] "Head" [.type "object"] [zr 468,.type "object"] 467 "Head" []::gx 852 468::gy 854 468::su 468::bf [.builtin "object.__init_subclass__",zr 468]::t_::fld []::tv ["octets","units","box","form"] 862::t_::f3 57 "read_head" 859 317 1 3 473 866 gh 803 (t_::fld []::tv ["head","found","number"] 872::t_::f3 58 "write_head" 869 328 1 3 480 875 gh 803 (t_::fld []::tv ["octets"] 881::t_::f3 59 "read_count" 878 333 1 3 487 882 gh 803 (t_::fld []::tv ["count","points","contours","depth","numbers","found","number"] 888::t_::f3 60 "write_maxp" 885 337 4 3 494 895 gh 803 ([])))))
def MK(P:Params):List DictEntry:=MJ P++[ze P uO 858 (zr 468),ze P zR 868 (zr 479),ze P Ao 877 (zr 486),ze P zN 884 (zr 493),ze P As 897 (zr 500)]
def Hz:List Value:=Hy++[zi 306 0,zi 0 0,zr 449,zi 317 0,zi 0 0,zr 478,zi 328 0,zi 0 0,zr 485,zi 333 0,zi 0 0,zr 492,zi 337 0,zi 0 0,zr 499]
def EJ(P:Params):BT:=dP (dF (EH P) 444 (Qx P)) [(3,dd (ze P dM 165 (zs gh 803)::MK P) 66),(12,fld Hz)]
def Qy(P:Params):List Obj:=t_::bf [.builtin "type.__prepare__",.type "type"]::dd [ze P k8 905 (zs gh 803),ze P k9 907 (zs "Lines" 906),ze P cg 909 (zi 343 908),ze P cH 920 (zr 514),ze P iT 927 (zr 521),ze P bR 932 (zr 522)] 6::t_::fld [zi 345 0,zi 4 0,zr 513,zi 351 0,zi 4 0,zr 520]::co "Lines" 900 343 0 0 504 false .none .none .none 903::fr 506 3 503 gh 803::t_::fld []::tv ["self","ascender","descender","gap","count"] 913::t_::m3 61 0 "__init__" "Lines.__init__" 910 345 5 3 508 918 gh 803 (t_::fld []::tv ["self"] 924::t_::m3 61 1 "row" "Lines.row" 921 351 1 3 515 925 gh 803 (tv ["ascender","count","descender","gap"] 928::dd [ze P k8 905 (zs gh 803),ze P cg 909 (zi 343 908),ze P cH 920 (zr 514),ze P iT 927 (zr 521),ze P bR 932 (zr 522),ze P gK 934 (zr 525),ze P gg 936 (zr 526),ze P k0 937 .none] 4::ed none #[none,none,some (zs "Lines" 898),some (zs "Lines" 906),some (.builtin "object.__new__"),some (.bool true)] "Lines" [.type "object"] [zr 524,.type "object"] 523 "Lines" []::gx 933 524::gy 935 524::su 524::bf [.builtin "object.__init_subclass__",zr 524]::t_::fld []::tv ["octets"] 943::t_::f3 62 "read_lines" 940 353 1 3 529 944 gh 803 (t_::fld []::tv ["lines","widest","found"] 950::t_::f3 63 "write_lines" 947 357 2 3 536 953 gh 803 (t_::fld []::tv ["one","other","first","second"] 961::t_::f3 65 "common_divisor" 958 361 2 3 543 965 "outlinemill.exact" 956 (tup [zi 1 968]::t_::fld []::tv ["top","bottom","common"] 972::t_::fz 66 "fraction"::co "fraction" 969 366 2 3 551 true (zr 553) (zr 554) (zr 555) 975::jy (.type "function") (fd (zS 66) "fraction" "fraction" 3 (zr 550) (zs "outlinemill.exact" 956) (zr 556) 0)::[])))))
def ML(P:Params):List DictEntry:=MK P++[ze P uQ 939 (zr 524),ze P zU 946 (zr 535),ze P Aq 955 (zr 542),ze P zy 967 (zr 549),ze P pJ 977 (zr 557)]
def HA:List Value:=Hz++[zi 343 0,zi 0 0,zr 506,zi 353 0,zi 0 0,zr 534,zi 357 0,zi 0 0,zr 541,zi 361 0,zi 0 0,zr 548,zi 366 0,zi 0 0,zr 556]
def EK(P:Params):BT:=dP (dF (EJ P) 501 (Qy P)) [(3,dd (ze P dM 165 (zs "outlinemill.exact" 956)::ML P) 71),(12,fld HA)]
def Qz(P:Params):List Obj:=t_::bf [.builtin "type.__prepare__",.type "type"]::dd [ze P k8 987 (zs gi 978),ze P k9 989 (zs "Outline" 988),ze P cg 991 (zi 374 990),ze P cH 1001 (zr 572),ze P gr 1010 (zr 579),ze P cx 1020 (zr 586),ze P iT 1026 (zr 591),ze P cw 1032 (zr 596),ze P bR 1035 (zr 597)] 9::t_::fld [zi 376 0,zi 4 0,zr 571,zi 380 0,zi 4 0,zr 578,zi 386 0,zi 4 0,zr 585,zi 394 0,zi 4 0,zr 590,zi 397 0,zi 4 0,zr 595]::co "Outline" 982 374 0 0 561 false .none .none .none 985::fr 563 3 560 gi 978::tup [.bytes ⟨[]⟩ 992]::t_::fld []::tv ["self","contours","instructions"] 996::t_::fy 68 0 "__init__" "Outline.__init__"::iY "__init__" "Outline.__init__" 993 376 3 3 566 true (zr 568) (zr 569) (zr 570) 999::jy (.type "function") (fd (zM 68 0) "__init__" "Outline.__init__" 3 (zr 565) (zs gi 978) (zr 571) 0)::t_::fld []::tv ["self","found","contour"] 1005::t_::m3 68 1 "points" "Outline.points" 1002 380 1 3 573 1008 gi 978 (t_::fld []::tv ["self","found","at","contour"] 1014::t_::m3 68 2 "ends" "Outline.ends" 1011 386 1 3 580 1018 gi 978 (t_::fld []::fy 68 3 "row" "Outline.row"::iY "row" "Outline.row" 1021 394 1 3 587 true .none .none (zr 589) 1024::fm 68 3 "row" "Outline.row" gi 978 590::t_::fld []::fy 68 4 "box" "Outline.box"::iY "box" "Outline.box" 1027 397 1 3 592 true .none .none (zr 594) 1030::fm 68 4 "box" "Outline.box" gi 978 595::tv ["contours","instructions"] 1033::dd [ze P k8 987 (zs gi 978),ze P cg 991 (zi 374 990),ze P cH 1001 (zr 572),ze P gr 1010 (zr 579),ze P cx 1020 (zr 586),ze P iT 1026 (zr 591),ze P cw 1032 (zr 596),ze P bR 1035 (zr 597),ze P gK 1037 (zr 600),ze P gg 1039 (zr 601),ze P k0 1040 .none] 4::ed none #[none,none,some (zs "Outline" 980),some (zs "Outline" 988),some (.builtin "object.__new__"),some (.bool true)] "Outline" [.type "object"] [zr 599,.type "object"] 598 "Outline" []::gx 1036 599::gy 1038 599::su 599::bf [.builtin "object.__init_subclass__",zr 599]::t_::fld []::tv ["points","ends","found","begin","end"] 1046::t_::f3 69 "contours_of" 1043 404 2 3 604 1051 gi 978 ([])))
def MM(P:Params):List DictEntry:=ML P++[ze P pH 1042 (zr 599),ze P zB 1053 (zr 610)]
def HB:List Value:=HA++[zi 374 0,zi 0 0,zr 563,zi 404 0,zi 0 0,zr 609]
def EM(P:Params):BT:=dP (dF (EK P) 558 (Qz P)) [(3,dd (ze P dM 165 (zs gi 978)::MM P) 73),(12,fld HB)]
def QB(P:Params):List Obj:=t_::fld []::fz 70 "moved"::co "moved" 1054 411 3 3 611 true .none .none (zr 613) 1057::ff 70 "moved" gi 978 614::t_::fld []::tv ["number"] 1063::t_::f3 71 "scaled_number" 1060 413 1 3 616 1064 gi 978 (t_::fld []::fz 72 "turned"::co "turned" 1067 415 2 3 623 true .none .none (zr 625) 1070::ff 72 "turned" gi 978 626::t_::fld []::tv ["point"] 1076::t_::f3 73 "spot" 1073 421 1 3 628 1077 gi 978 (t_::fld []::tv ["one","other"] 1083::t_::f3 74 "middle" 1080 423 2 3 635 1085 gi 978 (t_::fld []::tv ["contour"] 1091::t_::f3 75 "begin_of" 1088 425 1 3 642 1092 gi 978 (t_::fld []::tv ["contour","start","points","found","control","point"] 1098::t_::f3 76 "contour_segments" 1095 431 1 3 649 1104 gi 978 (t_::fld []::tv ["outline","found","contour"] 1110::t_::f3 77 "segments_of" 1107 447 1 3 656 1113 gi 978 ([]))))))
def MN(P:Params):List DictEntry:=MM P++[ze P zI 1059 (zr 615),ze P LW 1066 (zr 622),ze P Ai 1072 (zr 627),ze P lU 1079 (zr 634),ze P vm 1087 (zr 641),ze P zv 1094 (zr 648),ze P zA 1106 (zr 655),ze P Aa 1115 (zr 662),ze P uT 1119 (zi 1 1118),ze P u5 1121 (zi 2 1120),ze P u7 1123 (zi 4 1122),ze P uU 1125 (zi 8 1124),ze P u3 1127 (zi 16 1126),ze P u6 1129 (zi 32 1128),ze P uZ 1131 (zi 1 1130),ze P pG 1133 (zi 2 1132),ze P zm 1135 (zi 8 1134),ze P rR 1137 (zi 32 1136),ze P zp 1139 (zi 64 1138),ze P yZ 1141 (zi 128 1140),ze P y8 1143 (zi 256 1142),ze P zd 1145 (zi 8 1144),ze P mQ 1147 (zi 16384 1146)]
def HC:List Value:=HB++[zi 411 0,zi 0 0,zr 614,zi 413 0,zi 0 0,zr 621,zi 415 0,zi 0 0,zr 626,zi 421 0,zi 0 0,zr 633,zi 423 0,zi 0 0,zr 640,zi 425 0,zi 0 0,zr 647,zi 431 0,zi 0 0,zr 654,zi 447 0,zi 0 0,zr 661]
def EN(P:Params):BT:=dP (dF (EM P) 611 (QB P)) [(3,dd (ze P dM 165 (zs cI 1116)::MN P) 96),(12,fld HC)]
def QG(P:Params):List Obj:=t_::fld []::tv ["octets","is_long","count","size","found","number","place"] 1151::t_::f3 94 "read_loca" 1148 469 3 3 663 1158 cI 1116 (t_::bf [.builtin "type.__prepare__",.type "type"]::dd [ze P k8 1168 (zs cI 1116),ze P k9 1170 (zs "Octets" 1169),ze P cg 1172 (zi 480 1171),ze P cH 1180 (zr 683),ze P mR 1187 (zr 690),ze P ot 1194 (zr 697),ze P om 1201 (zr 704),ze P mU 1209 (zr 711),ze P bR 1212 (zr 712)] 9::t_::fld [zi 482 0,zi 4 0,zr 682,zi 486 0,zi 4 0,zr 689,zi 490 0,zi 4 0,zr 696,zi 494 0,zi 4 0,zr 703,zi 498 0,zi 4 0,zr 710]::co "Octets" 1163 480 0 0 673 false .none .none .none 1166::fr 675 3 672 cI 1116::t_::fld []::tv ["self","octets"] 1176::t_::m3 95 0 "__init__" "Octets.__init__" 1173 482 2 3 677 1178 cI 1116 (t_::fld []::tv ["self"] 1184::t_::m3 95 1 "byte" "Octets.byte" 1181 486 1 3 684 1185 cI 1116 (t_::fld []::tv ["self"] 1191::t_::m3 95 2 "word" "Octets.word" 1188 490 1 3 691 1192 cI 1116 (t_::fld []::tv ["self"] 1198::t_::m3 95 3 "signed" "Octets.signed" 1195 494 1 3 698 1199 cI 1116 (t_::fld []::tv ["self","size"] 1205::t_::m3 95 4 "part" "Octets.part" 1202 498 2 3 705 1207 cI 1116 (tv ["at","octets"] 1210::dd [ze P k8 1168 (zs cI 1116),ze P cg 1172 (zi 480 1171),ze P cH 1180 (zr 683),ze P mR 1187 (zr 690),ze P ot 1194 (zr 697),ze P om 1201 (zr 704),ze P mU 1209 (zr 711),ze P bR 1212 (zr 712),ze P gK 1214 (zr 715),ze P gg 1216 (zr 716),ze P k0 1217 .none] 4::ed none #[none,none,some (zs "Octets" 1161),some (zs "Octets" 1169),some (.builtin "object.__new__"),some (.bool true)] "Octets" [.type "object"] [zr 714,.type "object"] 713 "Octets" []::gx 1213 714::gy 1215 714::su 714::bf [.builtin "object.__init_subclass__",zr 714]::[]))))))
def MP(P:Params):List DictEntry:=MN P++[ze P zV 1160 (zr 669),ze P zk 1219 (zr 714)]
def HD:List Value:=HC++[zi 469 0,zi 0 0,zr 668,zi 480 0,zi 0 0,zr 675]
def t16(P:Params):BT:=dP (dF (EN P) 663 (QG P)) [(3,dd (ze P dM 165 (zs cI 1116)::MP P) 98),(12,fld HD)]
def QH(P:Params):List Obj:=t_::fld []::tv ["octets","count","found","flag","many"] 1223::t_::f3 96 "read_flags" 1220 501 2 3 719 1228 cI 1116 (t_::fld []::tv ["octets","flags","short","same","found","at","flag","step"] 1234::t_::f3 97 "read_deltas" 1231 512 4 3 726 1242 cI 1116 (t_::fld []::tv ["octets","many","found","number","end"] 1248::t_::f3 98 "read_ends" 1245 523 2 3 733 1253 cI 1116 (t_::fld []::fz 99 "read_simple"::co "read_simple" 1256 531 2 3 740 true .none .none (zr 742) 1259::ff 99 "read_simple" cI 1116 743::[])))
def MQ(P:Params):List DictEntry:=MP P++[ze P zQ 1230 (zr 725),ze P vt 1244 (zr 732),ze P zP 1255 (zr 739),ze P z6 1261 (zr 744)]
def HE:List Value:=HD++[zi 501 0,zi 0 0,zr 724,zi 512 0,zi 0 0,zr 731,zi 523 0,zi 0 0,zr 738,zi 531 0,zi 0 0,zr 743]
def vS(P:Params):BT:=dP (dF (t16 P) 719 (QH P)) [(3,dd (ze P dM 165 (zs cI 1116)::MQ P) 102),(12,fld HE)]
def QI(P:Params):List Obj:=t_::bf [.builtin "type.__prepare__",.type "type"]::dd [ze P k8 1269 (zs cI 1116),ze P k9 1271 (zs "Part" 1270),ze P cg 1273 (zi 540 1272),ze P cH 1287 (zr 760),ze P iT 1294 (zr 767),ze P bR 1300 (zr 768)] 6::t_::fld [zi 542 0,zi 4 0,zr 759,zi 549 0,zi 4 0,zr 766]::co "Part" 1264 540 0 0 748 false .none .none .none 1267::fr 750 3 747 cI 1116::tup [zi 16384 1146,zi 0 1274,zi 0 1275,zi 16384 1146]::tup [.bool true,zr 752]::t_::fld []::tv ["self","glyph","first","second","is_move","scale"] 1279::t_::fy 100 0 "__init__" "Part.__init__"::iY "__init__" "Part.__init__" 1276 542 6 3 754 true (zr 756) (zr 757) (zr 758) 1285::jy (.type "function") (fd (zM 100 0) "__init__" "Part.__init__" 3 (zr 753) (zs cI 1116) (zr 759) 0)::t_::fld []::tv ["self"] 1291::t_::m3 100 1 "row" "Part.row" 1288 549 1 3 761 1292 cI 1116 (tv ["first","glyph","is_move","scale","second"] 1295::dd [ze P k8 1269 (zs cI 1116),ze P cg 1273 (zi 540 1272),ze P cH 1287 (zr 760),ze P iT 1294 (zr 767),ze P bR 1300 (zr 768),ze P gK 1302 (zr 771),ze P gg 1304 (zr 772),ze P k0 1305 .none] 4::ed none #[none,none,some (zs "Part" 1262),some (zs "Part" 1270),some (.builtin "object.__new__"),some (.bool true)] "Part" [.type "object"] [zr 770,.type "object"] 769 "Part" []::gx 1301 770::gy 1303 770::su 770::bf [.builtin "object.__init_subclass__",zr 770]::t_::fld []::tv ["octets","flags","one","other","third"] 1311::t_::f3 101 "read_scale" 1308 551 2 3 775 1316 cI 1116 (t_::fld []::tv ["number"] 1322::t_::f3 102 "signed_byte" 1319 562 1 3 782 1323 cI 1116 (t_::fld []::tv ["octets","flags","is_move","first","second"] 1329::t_::f3 103 "read_arguments" 1326 564 2 3 789 1334 cI 1116 ([]))))
def MR(P:Params):List DictEntry:=MQ P++[ze P rS 1307 (zr 770),ze P z0 1318 (zr 781),ze P vw 1325 (zr 788),ze P zK 1336 (zr 795)]
def HF:List Value:=HE++[zi 540 0,zi 0 0,zr 750,zi 551 0,zi 0 0,zr 780,zi 562 0,zi 0 0,zr 787,zi 564 0,zi 0 0,zr 794]
def ER(P:Params):BT:=dP (dF (vS P) 745 (QI P)) [(3,dd (ze P dM 165 (zs cI 1116)::MR P) 106),(12,fld HF)]
def QJ(P:Params):List Obj:=t_::fld []::tv ["octets","found","flags","glyph","first","second","instructions"] 1340::t_::f3 104 "read_parts" 1337 576 1 3 796 1347 cI 1116 (t_::bf [.builtin "type.__prepare__",.type "type"]::dd [ze P k8 1357 (zs cI 1116),ze P k9 1359 (zs "GlyphTable" 1358),ze P cg 1361 (zi 588 1360),ze P cH 1370 (zr 816),ze P cJ 1377 (zr 823),ze P vj 1385 (zr 830),ze P fB 1394 (zr 837),ze P bH 1410 (zr 846),ze P bR 1413 (zr 847)] 9::t_::fld [zi 590 0,zi 4 0,zr 815,zi 594 0,zi 4 0,zr 822,zi 597 0,zi 4 0,zr 829,zi 602 0,zi 4 0,zr 836,zi 609 0,zi 4 0,zr 845]::co "GlyphTable" 1352 588 0 0 806 false .none .none .none 1355::fr 808 3 805 cI 1116::t_::fld []::tv ["self","octets","places"] 1365::t_::m3 105 0 "__init__" "GlyphTable.__init__" 1362 590 3 3 810 1368 cI 1116 (t_::fld []::tv ["self"] 1374::t_::m3 105 1 "count" "GlyphTable.count" 1371 594 1 3 817 1375 cI 1116 (t_::fld []::tv ["self","glyph"] 1381::t_::m3 105 2 "glyph_octets" "GlyphTable.glyph_octets" 1378 597 2 3 824 1383 cI 1116 (t_::fld []::tv ["self","glyph","octets"] 1389::t_::m3 105 3 "parts" "GlyphTable.parts" 1386 602 2 3 831 1392 cI 1116 (t_::tup [zr 838]::t_::fld []::tv ["self","glyph","above","octets","many","parts","instructions","contours","part","inner"] 1398::t_::fy 105 4 "outline" "GlyphTable.outline"::iY "outline" "GlyphTable.outline" 1395 609 3 3 840 true (zr 842) (zr 843) (zr 844) 1408::jy (.type "function") (fd (zM 105 4) "outline" "GlyphTable.outline" 3 (zr 839) (zs cI 1116) (zr 845) 0)::tv ["octets","places"] 1411::dd [ze P k8 1357 (zs cI 1116),ze P cg 1361 (zi 588 1360),ze P cH 1370 (zr 816),ze P cJ 1377 (zr 823),ze P vj 1385 (zr 830),ze P fB 1394 (zr 837),ze P bH 1410 (zr 846),ze P bR 1413 (zr 847),ze P gK 1415 (zr 850),ze P gg 1417 (zr 851),ze P k0 1418 .none] 4::ed none #[none,none,some (zs "GlyphTable" 1350),some (zs "GlyphTable" 1358),some (.builtin "object.__new__"),some (.bool true)] "GlyphTable" [.type "object"] [zr 849,.type "object"] 848 "GlyphTable" []::gx 1414 849::gy 1416 849::su 849::bf [.builtin "object.__init_subclass__",zr 849]::[])))))
def MU(P:Params):List DictEntry:=MR P++[ze P zY 1349 (zr 802),ze P y4 1420 (zr 849)]
def HG:List Value:=HF++[zi 576 0,zi 0 0,zr 801,zi 588 0,zi 0 0,zr 808]
def ES(P:Params):BT:=dP (dF (ER P) 796 (QJ P)) [(3,dd (ze P dM 165 (zs cI 1116)::MU P) 108),(12,fld HG)]
def QK(P:Params):List Obj:=t_::fld []::tv ["part","inner","outer","found","fixed","loose","anchor","own"] 1424::t_::f3 106 "placed" 1421 627 3 3 854 1432 cI 1116 (t_::fld []::tv ["step","short","same"] 1442::t_::f3 109 "axis_flag" 1439 638 3 3 861 1445 n7 1435 (t_::fld []::tv ["flags","found","at","many"] 1451::t_::f3 110 "flag_octets" 1448 648 1 3 868 1455 n7 1435 (t_::fld []::fz 111 "box_octets"::co "box_octets" 1458 661 1 3 875 true .none .none (zr 877) 1461::ff 111 "box_octets" n7 1435 878::t_::fld []::fz 112 "simple_octets"::co "simple_octets" 1464 663 1 3 880 true .none .none (zr 882) 1467::ff 112 "simple_octets" n7 1435 883::t_::fld []::tv ["scale","a","b","c","d"] 1473::t_::f3 113 "scale_octets" 1470 677 1 3 885 1478 n7 1435 (t_::fld []::tv ["part","first","second"] 1484::t_::f3 114 "argument_octets" 1481 686 1 3 892 1487 n7 1435 (tup [.bytes ⟨[]⟩ 1490]::t_::fld []::tv ["parts","box","instructions","found","at","argument_flag","arguments","scale_flag","scale","flags"] 1494::t_::fz 115 "composite_octets"::co "composite_octets" 1491 695 3 3 900 true (zr 902) (zr 903) (zr 904) 1504::jy (.type "function") (fd (zS 115) "composite_octets" "composite_octets" 3 (zr 899) (zs n7 1435) (zr 905) 0)::t_::fld []::tv ["rows","is_long","glyphs","places","octets","told","place"] 1510::t_::f3 116 "write_glyphs" 1507 711 2 3 907 1517 n7 1435 ([]))))))
def MW(P:Params):List DictEntry:=MU P++[ze P zJ 1434 (zr 860),ze P uS 1438 (zi 255 1437),ze P vd 1447 (zr 867),ze P zE 1457 (zr 874),ze P ve 1463 (zr 879),ze P Ab 1469 (zr 884),ze P z9 1480 (zr 891),ze P zu 1489 (zr 898),ze P zz 1506 (zr 906),ze P An 1519 (zr 913)]
def HI:List Value:=HG++[zi 627 0,zi 0 0,zr 859,zi 638 0,zi 0 0,zr 866,zi 648 0,zi 0 0,zr 873,zi 661 0,zi 0 0,zr 878,zi 663 0,zi 0 0,zr 883,zi 677 0,zi 0 0,zr 890,zi 686 0,zi 0 0,zr 897,zi 695 0,zi 0 0,zr 905,zi 711 0,zi 0 0,zr 912]
def ET(P:Params):BT:=dP (dF (ES P) 854 (QK P)) [(3,dd (ze P dM 165 (zs fS 1520)::MW P) 118),(12,fld HI)]
def QN(P:Params):List Obj:=t_::bf [.builtin "type.__prepare__",.type "type"]::dd [ze P k8 1529 (zs fS 1520),ze P k9 1531 (zs "Metrics" 1530),ze P cg 1533 (zi 724 1532),ze P cH 1542 (zr 927),ze P cN 1550 (zr 934),ze P cT 1558 (zr 941),ze P bR 1561 (zr 942)] 7::t_::fld [zi 726 0,zi 4 0,zr 926,zi 730 0,zi 4 0,zr 933,zi 735 0,zi 4 0,zr 940]::co "Metrics" 1524 724 0 0 917 false .none .none .none 1527::fr 919 3 916 fS 1520::t_::fld []::tv ["self","advances","bearings"] 1537::t_::m3 118 0 "__init__" "Metrics.__init__" 1534 726 3 3 921 1540 fS 1520 (t_::fld []::tv ["self","glyph"] 1546::t_::m3 118 1 "advance" "Metrics.advance" 1543 730 2 3 928 1548 fS 1520 (t_::fld []::tv ["self","glyph"] 1554::t_::m3 118 2 "bearing" "Metrics.bearing" 1551 735 2 3 935 1556 fS 1520 (tv ["advances","bearings"] 1559::dd [ze P k8 1529 (zs fS 1520),ze P cg 1533 (zi 724 1532),ze P cH 1542 (zr 927),ze P cN 1550 (zr 934),ze P cT 1558 (zr 941),ze P bR 1561 (zr 942),ze P gK 1563 (zr 945),ze P gg 1565 (zr 946),ze P k0 1566 .none] 4::ed none #[none,none,some (zs "Metrics" 1522),some (zs "Metrics" 1530),some (.builtin "object.__new__"),some (.bool true)] "Metrics" [.type "object"] [zr 944,.type "object"] 943 "Metrics" []::gx 1562 944::gy 1564 944::su 944::bf [.builtin "object.__init_subclass__",zr 944]::t_::fld []::fz 119 "read_metrics"::co "read_metrics" 1569 739 3 3 949 true .none .none (zr 951) 1572::ff 119 "read_metrics" fS 1520 952::t_::fld []::tv ["advances","many"] 1578::t_::f3 120 "told_advances" 1575 747 1 3 954 1580 fS 1520 (t_::fld []::fz 121 "write_metrics"::co "write_metrics" 1583 752 1 3 961 true .none .none (zr 963) 1586::ff 121 "write_metrics" fS 1520 964::[]))))
def MX(P:Params):List DictEntry:=MW P++[ze P zh 1568 (zr 944),ze P zX 1574 (zr 953),ze P Ah 1582 (zr 960),ze P Au 1588 (zr 965)]
def HJ:List Value:=HI++[zi 724 0,zi 0 0,zr 919,zi 739 0,zi 0 0,zr 952,zi 747 0,zi 0 0,zr 959,zi 752 0,zi 0 0,zr 964]
def EU(P:Params):BT:=dP (dF (ET P) 914 (QN P)) [(3,dd (ze P dM 165 (zs fS 1520)::MX P) 122),(12,fld HJ)]
def QP(P:Params):List Obj:=t_::bf [.builtin "type.__prepare__",.type "type"]::dd [ze P k8 1596 (zs fS 1520),ze P k9 1598 (zs "Kern" 1597),ze P cg 1600 (zi 759 1599),ze P cH 1608 (zr 979),ze P oq 1620 (zr 986),ze P bR 1622 (zr 987)] 6::t_::fld [zi 761 0,zi 4 0,zr 978,zi 764 0,zi 4 0,zr 985]::co "Kern" 1591 759 0 0 969 false .none .none .none 1594::fr 971 3 968 fS 1520::t_::fld []::tv ["self","rows"] 1604::t_::m3 122 0 "__init__" "Kern.__init__" 1601 761 2 3 973 1606 fS 1520 (t_::fld []::tv ["self","left","right","low","high","half"] 1612::t_::m3 122 1 "value" "Kern.value" 1609 764 3 3 980 1618 fS 1520 (tv ["rows"] 1621::dd [ze P k8 1596 (zs fS 1520),ze P cg 1600 (zi 759 1599),ze P cH 1608 (zr 979),ze P oq 1620 (zr 986),ze P bR 1622 (zr 987),ze P gK 1624 (zr 990),ze P gg 1626 (zr 991),ze P k0 1627 .none] 4::ed none #[none,none,some (zs "Kern" 1589),some (zs "Kern" 1597),some (.builtin "object.__new__"),some (.bool true)] "Kern" [.type "object"] [zr 989,.type "object"] 988 "Kern" []::gx 1623 989::gy 1625 989::su 989::bf [.builtin "object.__init_subclass__",zr 989]::t_::fld []::tv ["octets","rows","at","place"] 1633::t_::f3 123 "kern_rows" 1630 776 1 3 994 1637 fS 1520 (t_::fld []::fz 124 "read_kern"::co "read_kern" 1640 782 1 3 1001 true .none .none (zr 1003) 1643::ff 124 "read_kern" fS 1520 1004::t_::fld []::tv ["rows","told","power","exponent","found","left","right","value"] 1649::t_::f3 125 "write_kern" 1646 794 1 3 1006 1657 fS 1520 (tup [zi 0 1662,zi 0 1663,zi 0 1664,zi 0 1665]::[]))))
def MY(P:Params):List DictEntry:=MX P++[ze P uP 1629 (zr 989),ze P zH 1639 (zr 1000),ze P zT 1645 (zr 1005),ze P Ap 1659 (zr 1012),ze P zj 1666 (zr 1013)]
def HK:List Value:=HJ++[zi 759 0,zi 0 0,zr 971,zi 776 0,zi 0 0,zr 999,zi 782 0,zi 0 0,zr 1004,zi 794 0,zi 0 0,zr 1011]
def EV(P:Params):BT:=dP (dF (EU P) 966 (QP P)) [(3,dd (ze P dM 165 (zs iL 1660)::MY P) 127),(12,fld HK)]
def QQ(P:Params):List Obj:=t_::bf [.builtin "type.__prepare__",.type "type"]::dd [ze P k8 1674 (zs iL 1660),ze P k9 1676 (zs "Letter" 1675),ze P cg 1678 (zi 807 1677),ze P cH 1690 (zr 1028),ze P aH 1697 (zr 1035),ze P gr 1704 (zr 1042),ze P bR 1710 (zr 1043)] 7::t_::fld [zi 809 0,zi 4 0,zr 1027,zi 816 0,zi 4 0,zr 1034,zi 821 0,zi 4 0,zr 1041]::co "Letter" 1669 807 0 0 1017 false .none .none .none 1672::fr 1019 3 1016 iL 1660::tup [.none,.none,zr 1013]::t_::fld []::tv ["self","advance","bearing","outline","parts","box"] 1682::t_::fy 128 0 "__init__" "Letter.__init__"::iY "__init__" "Letter.__init__" 1679 809 6 3 1022 true (zr 1024) (zr 1025) (zr 1026) 1688::jy (.type "function") (fd (zM 128 0) "__init__" "Letter.__init__" 3 (zr 1021) (zs iL 1660) (zr 1027) 0)::t_::fld []::tv ["self"] 1694::t_::m3 128 1 "octets" "Letter.octets" 1691 816 1 3 1029 1695 iL 1660 (t_::fld []::tv ["self"] 1701::t_::m3 128 2 "points" "Letter.points" 1698 821 1 3 1036 1702 iL 1660 (tv ["advance","bearing","box","outline","parts"] 1705::dd [ze P k8 1674 (zs iL 1660),ze P cg 1678 (zi 807 1677),ze P cH 1690 (zr 1028),ze P aH 1697 (zr 1035),ze P gr 1704 (zr 1042),ze P bR 1710 (zr 1043),ze P gK 1712 (zr 1046),ze P gg 1714 (zr 1047),ze P k0 1715 .none] 4::ed none #[none,none,some (zs "Letter" 1667),some (zs "Letter" 1675),some (.builtin "object.__new__"),some (.bool true)] "Letter" [.type "object"] [zr 1045,.type "object"] 1044 "Letter" []::gx 1711 1045::gy 1713 1045::su 1045::bf [.builtin "object.__init_subclass__",zr 1045]::[]))
def MZ(P:Params):List DictEntry:=MY P++[ze P pF 1717 (zr 1045)]
def HL:List Value:=HK++[zi 807 0,zi 0 0,zr 1019]
def EW(P:Params):BT:=dP (dF (EV P) 1014 (QQ P)) [(3,dd (ze P dM 165 (zs iL 1660)::MZ P) 128),(12,fld HL)]
def QR(P:Params):List Obj:=t_::bf [.builtin "type.__prepare__",.type "type"]::dd [ze P k8 1725 (zs iL 1660),ze P k9 1727 (zs "Plan" 1726),ze P cg 1729 (zi 825 1728),ze P cH 1748 (zr 1066),ze P bR 1756 (zr 1067)] 5::t_::fld [zi 827 0,zi 4 0,zr 1065]::co "Plan" 1720 825 0 0 1053 false .none .none .none 1723::fr 1055 3 1052 iL 1660::t_::tup [zi 800 1731,zi (-200) 1733,zi 90 1734]::tup [zr 1057,zi 1000 1730,.bool false,zr 1058]::t_::fld []::tv ["self","letters","codes","maps","pairs","units","is_long","lines"] 1738::t_::fy 129 0 "__init__" "Plan.__init__"::iY "__init__" "Plan.__init__" 1735 827 8 3 1060 true (zr 1062) (zr 1063) (zr 1064) 1746::jy (.type "function") (fd (zM 129 0) "__init__" "Plan.__init__" 3 (zr 1059) (zs iL 1660) (zr 1065) 0)::tv ["codes","is_long","letters","lines","maps","pairs","units"] 1749::dd [ze P k8 1725 (zs iL 1660),ze P cg 1729 (zi 825 1728),ze P cH 1748 (zr 1066),ze P bR 1756 (zr 1067),ze P gK 1758 (zr 1070),ze P gg 1760 (zr 1071),ze P k0 1761 .none] 4::ed none #[none,none,some (zs "Plan" 1718),some (zs "Plan" 1726),some (.builtin "object.__new__"),some (.bool true)] "Plan" [.type "object"] [zr 1069,.type "object"] 1068 "Plan" []::gx 1757 1069::gy 1759 1069::su 1069::bf [.builtin "object.__init_subclass__",zr 1069]::t_::fld []::tv ["letters","found","letter","box"] 1767::t_::f3 130 "whole_box" 1764 835 1 3 1074 1771 iL 1660 (tup [.none]::t_::fld []::fz 131 "built"::co "built" 1774 842 2 3 1082 true .none .none (zr 1084) 1777::jy (.type "function") (fd (zS 131) "built" "built" 3 (zr 1081) (zs iL 1660) (zr 1085) 0)::t_::fld []::tv ["numbers","found","number"] 1783::t_::f3 132 "greatest" 1780 859 1 3 1087 1786 iL 1660 ([]))
def M0(P:Params):List DictEntry:=MZ P++[ze P zl 1763 (zr 1069),ze P Aj 1773 (zr 1080),ze P zx 1779 (zr 1086),ze P rW 1788 (zr 1093)]
def HM:List Value:=HL++[zi 825 0,zi 0 0,zr 1055,zi 835 0,zi 0 0,zr 1079,zi 842 0,zi 0 0,zr 1085,zi 859 0,zi 0 0,zr 1092]
def EX(P:Params):BT:=dP (dF (EW P) 1050 (QR P)) [(3,dd (ze P dM 165 (zs iK 1789)::M0 P) 132),(12,fld HM)]
def QU(P:Params):List Obj:=t_::bf [.builtin "type.__prepare__",.type "type"]::dd [ze P k8 1798 (zs iK 1789),ze P k9 1800 (zs "Font" 1799),ze P cg 1802 (zi 865 1801),ze P cH 1812 (zr 1107),ze P bA 1819 (zr 1114),ze P cJ 1826 (zr 1121),ze P cO 1835 (zr 1128),ze P bH 1843 (zr 1135),ze P rZ 1851 (zr 1142),ze P cN 1859 (zr 1149),ze P cT 1867 (zr 1156),ze P gp 1876 (zr 1163),ze P LM 1884 (zr 1170),ze P bR 1892 (zr 1171)] 14::t_::fld [zi 867 0,zi 4 0,zr 1106,zi 878 0,zi 4 0,zr 1113,zi 881 0,zi 4 0,zr 1120,zi 884 0,zi 4 0,zr 1127,zi 888 0,zi 4 0,zr 1134,zi 891 0,zi 4 0,zr 1141,zi 894 0,zi 4 0,zr 1148,zi 897 0,zi 4 0,zr 1155,zi 900 0,zi 4 0,zr 1162,zi 903 0,zi 4 0,zr 1169]::co "Font" 1793 865 0 0 1097 false .none .none .none 1796::fr 1099 3 1096 iK 1789::t_::fld []::tv ["self","octets","count","places"] 1806::t_::m3 134 0 "__init__" "Font.__init__" 1803 867 2 3 1101 1810 iK 1789 (t_::fld []::tv ["self"] 1816::t_::m3 134 1 "units" "Font.units" 1813 878 1 3 1108 1817 iK 1789 (t_::fld []::tv ["self"] 1823::t_::m3 134 2 "count" "Font.count" 1820 881 1 3 1115 1824 iK 1789 (t_::fld []::tv ["self","code","found"] 1830::t_::m3 134 3 "glyph" "Font.glyph" 1827 884 2 3 1122 1833 iK 1789 (t_::fld []::tv ["self","glyph"] 1839::t_::m3 134 4 "outline" "Font.outline" 1836 888 2 3 1129 1841 iK 1789 (t_::fld []::tv ["self","glyph"] 1847::t_::m3 134 5 "segments" "Font.segments" 1844 891 2 3 1136 1849 iK 1789 (t_::fld []::tv ["self","glyph"] 1855::t_::m3 134 6 "advance" "Font.advance" 1852 894 2 3 1143 1857 iK 1789 (t_::fld []::tv ["self","glyph"] 1863::t_::m3 134 7 "bearing" "Font.bearing" 1860 897 2 3 1150 1865 iK 1789 (t_::fld []::tv ["self","left","right"] 1871::t_::m3 134 8 "kern" "Font.kern" 1868 900 3 3 1157 1874 iK 1789 (t_::fld []::tv ["self","tag"] 1880::t_::m3 134 9 "program" "Font.program" 1877 903 2 3 1164 1882 iK 1789 (tv ["glyphs","head","lines","metrics","pairs","signs","tables"] 1885::dd [ze P k8 1798 (zs iK 1789),ze P cg 1802 (zi 865 1801),ze P cH 1812 (zr 1107),ze P bA 1819 (zr 1114),ze P cJ 1826 (zr 1121),ze P cO 1835 (zr 1128),ze P bH 1843 (zr 1135),ze P rZ 1851 (zr 1142),ze P cN 1859 (zr 1149),ze P cT 1867 (zr 1156),ze P gp 1876 (zr 1163),ze P LM 1884 (zr 1170),ze P bR 1892 (zr 1171),ze P gK 1894 (zr 1174),ze P gg 1896 (zr 1175),ze P k0 1897 .none] 4::ed none #[none,none,some (zs "Font" 1791),some (zs "Font" 1799),some (.builtin "object.__new__"),some (.bool true)] "Font" [.type "object"] [zr 1173,.type "object"] 1172 "Font" []::gx 1893 1173::gy 1895 1173::su 1173::bf [.builtin "object.__init_subclass__",zr 1173]::[]))))))))))
def M3(P:Params):List DictEntry:=M0 P++[ze P y3 1899 (zr 1173)]
def HN:List Value:=HM++[zi 865 0,zi 0 0,zr 1099]
def EY(P:Params):BT:=dP (dF (EX P) 1094 (QU P)) [(3,dd (ze P dM 165 (zs iK 1789)::M3 P) 133),(12,fld HN)]
def QV(P:Params):List Obj:=t_::fld []::tv ["script","k","cell","big"] 1905::t_::f3 136 "_law_pool" 1902 906 2 3 1178 1909 "law_nu0040_01" 1900 (t_::fld []::tv ["source","top","drawn"] 1915::t_::f3 137 "_law_take" 1912 910 2 3 1185 1918 "law_nu0040_01" 1900 (t_::fld []::tv ["source","things"] 1924::t_::f3 138 "_law_one" 1921 917 2 3 1192 1926 "law_nu0040_01" 1900 (t_::fld []::tv ["source","found","x","y","turn"] 1932::t_::f3 139 "_law_contour" 1929 919 1 3 1199 1937 "law_nu0040_01" 1900 (t_::fld []::fz 140 "_law_outline"::co "_law_outline" 1940 926 1 3 1206 true .none .none (zr 1208) 1943::ff 140 "_law_outline" "law_nu0040_01" 1900 1209::t_::fld []::fz 141 "_law_moved"::co "_law_moved" 1946 928 3 3 1211 true .none .none (zr 1213) 1949::ff 141 "_law_moved" "law_nu0040_01" 1900 1214::t_::fld []::fz 142 "_law_ends_right"::co "_law_ends_right" 1952 930 3 3 1216 true .none .none (zr 1218) 1955::ff 142 "_law_ends_right" "law_nu0040_01" 1900 1219::t_::fld []::fz 143 "law"::co "law" 1958 948 1 3 1221 true .none .none (zr 1223) 1961::ff 143 "law" "law_nu0040_01" 1900 1224::[]))))
def afL(P:Params):List DictEntry:=M3 P++[ze P zt 1911 (zr 1184),ze P lj 1920 (zr 1191),ze P jf 1928 (zr 1198),ze P u9 1939 (zr 1205),ze P vc 1945 (zr 1210),ze P vb 1951 (zr 1215),ze P zq 1957 (zr 1220),ze P acH 1963 (zr 1225)]
def UW:List Value:=HN++[zi 906 0,zi 0 0,zr 1183,zi 910 0,zi 0 0,zr 1190,zi 917 0,zi 0 0,zr 1197,zi 919 0,zi 0 0,zr 1204,zi 926 0,zi 0 0,zr 1209,zi 928 0,zi 0 0,zr 1214,zi 930 0,zi 0 0,zr 1219,zi 948 0,zi 0 0,zr 1224]
def sy(P:Params):BT:=dP (dF (EY P) 1178 (QV P)) [(3,dd (ze P dM 165 (zs "law_nu0040_01" 1900)::afL P) 141),(12,fld UW)]
noncomputable abbrev dr:Drawn:=⟨0,0,0,0⟩
def env:Env:={scope:=pg.main.scope,locals:=mainNs,globals:=mainNs,cells:=[],code:=.ref 13,frame:=some 14}
def cE:Code:=.body (behindTheImports pg) env
def dD(l:List Stmt)(pos:Pos):Thread:=⟨(PySem.W.Fast.tw12563942051412417395 l env).wrap doneF deadEnd id id,cE,pos,[topFrame ⟨0,0,0,0⟩]⟩
abbrev sT(P:Params)(t:Params→BT)(n k:Nat)(os:OsState):SharedT:=⟨t P,n,{},#[],dr,k,os⟩
noncomputable abbrev rn(p:Program)(w:World):=PySem.W.Fast.tw10110043849684766642 PySem.W.Fast.tw14364793385576792824 p w 11 (some (.ref 6)) 1
theorem pc0(p w os):rn p w 267 (sT w.params t0 15 187 os) (dD ((bu.drop 0).take 3) ⟨0,0,0,0⟩)=some (.next,sT w.params t1 42 225 os,cE,⟨5,0,8,30⟩):=by kernel_rfl
theorem pc1(p w os):rn p w 214 (sT w.params t1 42 225 os) (dD ((bu.drop 3).take 1) ⟨5,0,8,30⟩)=some (.next,sT w.params t2 54 241 os,cE,⟨9,0,10,8⟩):=by kernel_rfl
theorem pc2(p w os):rn p w 374 (sT w.params t2 54 241 os) (dD ((bu.drop 4).take 11) ⟨9,0,10,8⟩)=some (.next,sT w.params t3 87 298 os,cE,⟨27,0,28,56⟩):=by kernel_rfl
theorem pc3(p w os):rn p w 209 (sT w.params t3 87 298 os) (dD ((bu.drop 15).take 7) ⟨27,0,28,56⟩)=some (.next,sT w.params t4 134 354 os,cE,⟨52,0,55,68⟩):=by kernel_rfl
theorem pc4(p w os):rn p w 318 (sT w.params t4 134 354 os) (dD ((bu.drop 22).take 1) ⟨52,0,55,68⟩)=some (.next,sT w.params t5 176 406 os,cE,⟨56,0,70,29⟩):=by kernel_rfl
theorem pc5(p w os):rn p w 383 (sT w.params t5 176 406 os) (dD ((bu.drop 23).take 6) ⟨56,0,70,29⟩)=some (.next,sT w.params t6 232 485 os,cE,⟨100,0,106,28⟩):=by kernel_rfl
theorem pc6(p w os):rn p w 387 (sT w.params t6 232 485 os) (dD ((bu.drop 29).take 6) ⟨100,0,106,28⟩)=some (.next,sT w.params t7 283 571 os,cE,⟨133,0,139,58⟩):=by kernel_rfl
theorem pc7(p w os):rn p w 286 (sT w.params t7 283 571 os) (dD ((bu.drop 35).take 2) ⟨133,0,139,58⟩)=some (.next,sT w.params t8 316 619 os,cE,⟨149,0,158,14⟩):=by kernel_rfl
theorem pc8(p w os):rn p w 258 (sT w.params t8 316 619 os) (dD ((bu.drop 37).take 1) ⟨149,0,158,14⟩)=some (.next,sT w.params t9 342 661 os,cE,⟨159,0,181,69⟩):=by kernel_rfl
theorem pc9(p w os):rn p w 370 (sT w.params t9 342 661 os) (dD ((bu.drop 38).take 5) ⟨159,0,181,69⟩)=some (.next,sT w.params EG 392 731 os,cE,⟨222,0,224,102⟩):=by kernel_rfl
theorem ahk(p w os):rn p w 290 (sT w.params EG 392 731 os) (dD ((bu.drop 43).take 13) ⟨222,0,224,102⟩)=some (.next,sT w.params EH 444 813 os,cE,⟨305,0,305,10⟩):=by kernel_rfl
theorem ahl(p w os):rn p w 392 (sT w.params EH 444 813 os) (dD ((bu.drop 56).take 5) ⟨305,0,305,10⟩)=some (.next,sT w.params EJ 501 898 os,cE,⟨337,0,342,16⟩):=by kernel_rfl
theorem ahm(p w os):rn p w 394 (sT w.params EJ 501 898 os) (dD ((bu.drop 61).take 6) ⟨337,0,342,16⟩)=some (.next,sT w.params EK 558 978 os,cE,⟨366,0,372,44⟩):=by kernel_rfl
theorem ahn(p w os):rn p w 392 (sT w.params EK 558 978 os) (dD ((bu.drop 67).take 3) ⟨366,0,372,44⟩)=some (.next,sT w.params EM 611 1054 os,cE,⟨404,0,410,16⟩):=by kernel_rfl
theorem aho(p w os):rn p w 379 (sT w.params EM 611 1054 os) (dD ((bu.drop 70).take 24) ⟨404,0,410,16⟩)=some (.next,sT w.params EN 663 1148 os,cE,⟨468,0,468,4⟩):=by kernel_rfl
theorem ahp(p w os):rn p w 384 (sT w.params EN 663 1148 os) (dD ((bu.drop 94).take 2) ⟨468,0,468,4⟩)=some (.next,sT w.params t16 719 1220 os,cE,⟨480,0,500,57⟩):=by kernel_rfl
theorem ahq(p w os):rn p w 129 (sT w.params t16 719 1220 os) (dD ((bu.drop 96).take 4) ⟨480,0,500,57⟩)=some (.next,sT w.params vS 745 1262 os,cE,⟨531,0,539,59⟩):=by kernel_rfl
theorem ahr(p w os):rn p w 370 (sT w.params vS 745 1262 os) (dD ((bu.drop 100).take 4) ⟨531,0,539,59⟩)=some (.next,sT w.params ER 796 1337 os,cE,⟨564,0,575,26⟩):=by kernel_rfl
theorem ahs(p w os):rn p w 399 (sT w.params ER 796 1337 os) (dD ((bu.drop 104).take 2) ⟨564,0,575,26⟩)=some (.next,sT w.params ES 854 1421 os,cE,⟨588,0,626,46⟩):=by kernel_rfl
theorem aht(p w os):rn p w 318 (sT w.params ES 854 1421 os) (dD ((bu.drop 106).take 12) ⟨588,0,626,46⟩)=some (.next,sT w.params ET 914 1522 os,cE,⟨723,0,723,8⟩):=by kernel_rfl
theorem ahv(p w os):rn p w 371 (sT w.params ET 914 1522 os) (dD ((bu.drop 118).take 4) ⟨723,0,723,8⟩)=some (.next,sT w.params EU 966 1589 os,cE,⟨752,0,758,24⟩):=by kernel_rfl
theorem ahw(p w os):rn p w 376 (sT w.params EU 966 1589 os) (dD ((bu.drop 122).take 6) ⟨752,0,758,24⟩)=some (.next,sT w.params EV 1014 1667 os,cE,⟨806,0,806,6⟩):=by kernel_rfl
theorem ahx(p w os):rn p w 298 (sT w.params EV 1014 1667 os) (dD ((bu.drop 128).take 1) ⟨806,0,806,6⟩)=some (.next,sT w.params EW 1050 1718 os,cE,⟨807,0,824,71⟩):=by kernel_rfl
theorem ahy(p w os):rn p w 348 (sT w.params EW 1050 1718 os) (dD ((bu.drop 129).take 5) ⟨807,0,824,71⟩)=some (.next,sT w.params EX 1094 1791 os,cE,⟨864,0,864,8⟩):=by kernel_rfl
theorem ahz(p w os):rn p w 519 (sT w.params EX 1094 1791 os) (dD ((bu.drop 134).take 1) ⟨864,0,864,8⟩)=some (.next,sT w.params EY 1178 1900 os,cE,⟨865,0,904,16⟩):=by kernel_rfl
theorem ahA(p w os):rn p w 240 (sT w.params EY 1178 1900 os) (dD ((bu.drop 135).take 9) ⟨865,0,904,16⟩)=some (.next,sT w.params sy 1226 1964 os,cE,⟨948,0,981,48⟩):=by kernel_rfl
theorem amb(l:List Stmt)(pos:Pos):piecesOf l env cE pos [topFrame ⟨0,0,0,0⟩]=dD l pos:=by
 unfold dD piecesOf
 rw[←PySem.W.Fast.te12563942051412417395]
theorem dX{w:World}{n:Nat}{s s':SharedT}{l:List Stmt}{pos pos':Pos}
  (h:rn pg w n s (dD l pos)=some (.next,s',cE,pos')):
  segRun treeTable pg w 11 (some (.ref 6)) 1 n s.abs (piecesOf l env cE pos [topFrame ⟨0,0,0,0⟩])=some (.next,s'.abs,cE,pos'):=by
 unfold rn at h
 rw[←PySem.W.Fast.te10110043849684766642,←PySem.W.Fast.te14364793385576792824,←amb]at h
 exact segRun_of h
theorem Xg:behindTheImports pg=(bu.drop 0).take 3++((bu.drop 3).take 1++((bu.drop 4).take 11++((bu.drop 15).take 7++((bu.drop 22).take 1++((bu.drop 23).take 6++((bu.drop 29).take 6++((bu.drop 35).take 2++((bu.drop 37).take 1++((bu.drop 38).take 5++((bu.drop 43).take 13++((bu.drop 56).take 5++((bu.drop 61).take 6++((bu.drop 67).take 3++((bu.drop 70).take 24++((bu.drop 94).take 2++((bu.drop 96).take 4++((bu.drop 100).take 4++((bu.drop 104).take 2++((bu.drop 106).take 12++((bu.drop 118).take 4++((bu.drop 122).take 6++((bu.drop 128).take 1++((bu.drop 129).take 5++((bu.drop 134).take 1++((bu.drop 135).take 9++[]))))))))))))))))))))))))):=by kernel_rfl
theorem ahQ(w:World)(os:OsState):topGo treeTable pg w 11 (some (.ref 6)) 12 ⟨boot_heap w.params,Array.mk [],boot_drawn,boot_toks,os⟩ (topStub pg)=some ((sT w.params t0 15 187 os).abs,⟨denote treeTable (.body (behindTheImports pg) env),cE,⟨0,0,0,0⟩,[topFrame ⟨0,0,0,0⟩]⟩):=by
 kernel_rfl
theorem Ur(w:World)(os:OsState):segRun treeTable pg w 11 (some (.ref 6)) 1 1 (sT w.params t0 15 187 os).abs (blockOf (behindTheImports pg) env cE ⟨0,0,0,0⟩ [topFrame ⟨0,0,0,0⟩])=some (.next,(sT w.params t0 15 187 os).abs,cE,⟨0,0,0,0⟩):=by kernel_rfl
theorem Z0(w:World)(os:OsState):topRun treeTable pg w 11 (some (.ref 6)) 2 (sT w.params sy 1226 1964 os).abs ⟨doneF .next,cE,⟨948,0,981,48⟩,[topFrame ⟨0,0,0,0⟩]⟩=some (sT w.params sy 1226 1964 os).abs:=by kernel_rfl
theorem ajI(w:World)(os:OsState):topRun treeTable pg w 11 (some (.ref 6)) (12+(1+(267+(214+(374+(209+(318+(383+(387+(286+(258+(370+(290+(392+(394+(392+(379+(384+(129+(370+(399+(318+(371+(376+(298+(348+(519+(240+2)))))))))))))))))))))))))))) ⟨boot_heap w.params,Array.mk [],boot_drawn,boot_toks,os⟩ (topStub pg)=some (sT w.params sy 1226 1964 os).abs:=by
 refine go_top (ahQ w os) ?_
 refine piece_block (Ur w os) ?_
 rw[Xg]
 refine piece_app (dX (pc0 pg w os)) ?_
 refine piece_app (dX (pc1 pg w os)) ?_
 refine piece_app (dX (pc2 pg w os)) ?_
 refine piece_app (dX (pc3 pg w os)) ?_
 refine piece_app (dX (pc4 pg w os)) ?_
 refine piece_app (dX (pc5 pg w os)) ?_
 refine piece_app (dX (pc6 pg w os)) ?_
 refine piece_app (dX (pc7 pg w os)) ?_
 refine piece_app (dX (pc8 pg w os)) ?_
 refine piece_app (dX (pc9 pg w os)) ?_
 refine piece_app (dX (ahk pg w os)) ?_
 refine piece_app (dX (ahl pg w os)) ?_
 refine piece_app (dX (ahm pg w os)) ?_
 refine piece_app (dX (ahn pg w os)) ?_
 refine piece_app (dX (aho pg w os)) ?_
 refine piece_app (dX (ahp pg w os)) ?_
 refine piece_app (dX (ahq pg w os)) ?_
 refine piece_app (dX (ahr pg w os)) ?_
 refine piece_app (dX (ahs pg w os)) ?_
 refine piece_app (dX (aht pg w os)) ?_
 refine piece_app (dX (ahv pg w os)) ?_
 refine piece_app (dX (ahw pg w os)) ?_
 refine piece_app (dX (ahx pg w os)) ?_
 refine piece_app (dX (ahy pg w os)) ?_
 refine piece_app (dX (ahz pg w os)) ?_
 refine piece_app (dX (ahA pg w os)) ?_
 exact Z0 w os
def hF(P:Params):Heap:=absHeap (sy P) 1226 {}
def qv:Program:={pg with main:={pg.main with body:=[zS 143]}}
def lz:List Str:=[LJ,LL,LN,LP,uY,uX,uN,uV,za,rT,cV,ji,jk,aP,eY,lT,pI,vy,Af,Ae,uW,yY,zO,z7,vn,Ad,Ac,zC,Av,rQ,yX,LQ,LR,vg,zo,y6,zW,zZ,zL,LU,LV,z8,zG,Am,zD,Al,Ar,Ak,y7,uR,y9,zg,uO,zR,Ao,zN,As,uQ,zU,Aq,zy,pJ,pH,zB,zI,LW,Ai,lU,vm,zv,zA,Aa,uT,u5,u7,uU,u3,u6,uZ,pG,zm,rR,zp,yZ,y8,zd,mQ,zV,zk,zQ,vt,zP,z6,rS,z0,vw,zK,zY,y4,zJ,uS,vd,zE,ve,Ab,z9,zu,zz,An,zh,zX,Ah,Au,uP,zH,zT,Ap,zj,pF,zl,Aj,zx,rW,y3,zt,lj,jf,u9,vc,vb,zq]
theorem ak1(w:World):((boot_heap w.params).isNs mainGlobals&&(Array.mk []:Array GenState).size==0,(boot_heap w.params).objs.size,(boot_heap w.params).nsMap mainGlobals "__annotations__")=(true,11,some (.ref 6)):=by kernel_rfl
theorem ag2(w:World):(fencedOpening treeTable pg w 20000).map (fun s=>(s.heap,s.gens,s.drawn,s.toks))=some (boot_heap w.params,Array.mk [],boot_drawn,boot_toks):=
 boot_open (p:=pg) (N:=20000) (by kernel_rfl) (by kernel_rfl) (fun s=>by kernel_rfl) w
theorem lk1(w:World)(os:OsState):(staticsOk (importedModules pg.main.body) (boot_heap w.params) (hF w.params))=true:=by kernel_rfl
theorem lk2(w:World):namesBound pg (hF w.params)=true:=by
 unfold namesBound
 kernel_rfl
theorem lk4(w:World):laidKept (boot_heap w.params) (hF w.params)=true:=by kernel_rfl
theorem lk5(w:World)(os:OsState):openSeen qv lz (importedModules pg.main.body) (fun _=>true) true ⟨hF w.params,Array.mk [],dr,1964,os⟩=openGood qv lz:=by
 rw[PySem.W.Fast.te4187177175401517315]
 kernel_rfl
theorem ae0(w:World):(fun os=>((staticsOk (importedModules pg.main.body) (boot_heap w.params) (hF w.params)&&namesBound pg (hF w.params)&&gensDone ⟨hF w.params,Array.mk [],dr,1964,os⟩&&laidKept (boot_heap w.params) (hF w.params)),
  openSeen qv lz (importedModules pg.main.body) (fun _=>true) true ⟨hF w.params,Array.mk [],dr,1964,os⟩,hF w.params))=fun _=>(true,openGood qv lz,hF w.params):=by
 funext os
 refine looks_pair ?_ (looks_pair (lk5 w os) rfl)
 rw[lk1 w os,lk2 w,lk4 w]
 rfl
theorem ajJ(w:World)(os:OsState):topRun treeTable pg w 11 (some (.ref 6)) (12+(1+(267+(214+(374+(209+(318+(383+(387+(286+(258+(370+(290+(392+(394+(392+(379+(384+(129+(370+(399+(318+(371+(376+(298+(348+(519+(240+2)))))))))))))))))))))))))))) ⟨boot_heap w.params,Array.mk [],boot_drawn,boot_toks,os⟩ (topStub pg)=some ⟨hF w.params,Array.mk [],dr,1964,os⟩:=(ajI w os).trans (by kernel_rfl)
theorem room:ble (12+(1+(267+(214+(374+(209+(318+(383+(387+(286+(258+(370+(290+(392+(394+(392+(379+(384+(129+(370+(399+(318+(371+(376+(298+(348+(519+(240+2)))))))))))))))))))))))))))) 20000=true:=by kernel_rfl
theorem aez:LeftO pg qv lz (fun _=>true) (fun s=>s.heap) (fun w=>hF w.params) 20000 true:=
 LeftO.of_pieces (H₀:=boot_heap) (H₁:=hF) (gs₀:=Array.mk []) (gs₁:=Array.mk []) (d₀:=boot_drawn) (d₁:=dr) (k₀:=boot_toks) (k₁:=1964) (m₀:=11) (ann:=some (.ref 6)) (M:=12+(1+(267+(214+(374+(209+(318+(383+(387+(286+(258+(370+(290+(392+(394+(392+(379+(384+(129+(370+(399+(318+(371+(376+(298+(348+(519+(240+2)))))))))))))))))))))))))))) ag2 ak1 ajJ room ae0
end
section
abbrev je:Program:=PySem.Challenge.pw_nu0040_01
abbrev lw:OpenLaw:=PySem.Challenge.rw_nu0040_01
theorem d1:sreFenced je.main=true:=by kernel_rfl
theorem d2:((moduleNames je.main.body).isEmpty||lookedIntoSs (moduleNames je.main.body) je.main.body)=true:=by kernel_rfl
theorem d3:namesResolve je=true:=by rw[PySem.W.Fast.te8377067652309620493];kernel_rfl
theorem d4:je.boundNames.all (fun n=> !worldNames.contains n)=true:=by
 rw[show @instDecidableEqStr=PySem.W.Fast.sDec from PySem.W.Fast.sDec_eq,PySem.W.Fast.te14412699480532031325];kernel_rfl
theorem Xl:(["vars","dir","locals"]:List Str).filter (readsOut je je.main.body)=[]:=by
 rw[PySem.W.Fast.te13343964577679436407];kernel_rfl
theorem Xm:noRoadLSs {strict:=false,foot:=none,bare:=[]} je.main.body=true:=by rw[PySem.W.Fast.te8326940854005059898];kernel_rfl
theorem Xn:(!(importedModules je.main.body).all cThrough.contains)=false:=by kernel_rfl
theorem d6:(namesMeet je je.main.body fun _ n=>attrL n)=true:=by rw[PySem.W.Fast.te17119622794617984870,PySem.W.Fast.te17868728402115742887];kernel_rfl
theorem lo:looksOpen je=true:=by
 unfold looksOpen
 rw[Xl,Xn]
 exact look_both (look_both (look_both (look_both (look_both d1 d2) d3) d4) Xm) d6
theorem tw:je.tablesWhole=true:=by
 unfold Program.tablesWhole TablesWhole.wProgram
 rw[PySem.W.Fast.te6116379765354995101];kernel_rfl
theorem e1:lw.row.partSaid=true:=by
 unfold OpenRow.partSaid
 have h:looksOpen lw.row.prog=true:=lo
 rw[h]
 kernel_rfl
theorem e2:lw.row.wellSaid=true:=by
 unfold OpenRow.wellSaid
 rw[e1]
 kernel_rfl
theorem c2:decide (lw.foot≤(behindTheImports lw.prog).length)=true:=by kernel_rfl
theorem c3:lw.footing.all footLine=true:=by rw[PySem.W.Fast.te10501279942588096481];kernel_rfl
theorem c4:noClassBlock lw.prog lw.footing=true:=by rw[PySem.W.Fast.te8179353310426384613];kernel_rfl
theorem c5:noRoadLSs {strict:=true,foot:=some lw.bound',writes:=lw.writes,may:=lw.may} lw.footing=true:=by rw[PySem.W.Fast.te8326940854005059898];kernel_rfl
theorem c6:defStands lw.about lw.above=true:=by rw[PySem.W.Fast.te9558739934217749035];kernel_rfl
theorem c7:lw.namesIt=true:=by rw[PySem.W.Fast.te16286561074155671207];kernel_rfl
theorem ajR:lw.wellSaid=true:=by
 unfold OpenLaw.wellSaid
 rw[e2,c2,c3,c4,c5,c6,c7]
 rw[show @instDecidableEqStr=PySem.W.Fast.sDec from PySem.W.Fast.sDec_eq,PySem.W.Fast.te17119622794617984870,PySem.W.Fast.te6984425678791042302]
 kernel_rfl
end
section
def dL:DefRec:=⟨Str.ofString "law",ON (zS 143),Et (zS 143),OP (zS 143),⟨948,0,981,48⟩⟩
theorem abn:defOf qv lw.row.name=some (dL,[]):=by kernel_rfl
theorem hpL:lw.row.prog.theDef lw.row.name=some (dL.params,dL.body,dL.scope):=by kernel_rfl
theorem hkL:kwWritten? dL.params.kwonlyargs dL.params.kw_defaults=some []:=by kernel_rfl
theorem okL:(chainsOk qv&&opensWell lw.row.prog&&(frees lw.row.toRowW&&lw.row.within.isEmpty))=true:=by kernel_rfl
theorem T9:lw.row.prog.bare:=⟨rfl,rfl,rfl,rfl,rfl,tw⟩
theorem ahS:lw.row.toRowW.promised:=by w_witness2
abbrev YP(w:World)(h:Heap):Prop:=∀b o,(hF w.params).get? b=some o→h.get? b=some o
theorem head(call:WalkO qv lz (fun _ _=>True) YP lw.row.toRowW dL [] fun f vs=>PySem.call f vs):PySem.Challenge.rw_nu0040_01.Holds:=by
 refine holds_law (l:=lw) ajR fun k1=> ?_
 exact holds_open (r:=lw.row) (q:=qv) (loose:=lz) (Xt:=fun _=>true) (XP:=fun _ _=>True) (Yf:=fun s=>s.heap) (Ya:=fun w=>hF w.params) (YP:=YP) (d:=dL) (kwd:=[]) (N:=20000)
  aez (fun w s e b o q=>by rw[show s.heap=hF w.params from e];exact q) (fun w h h' y k b o q=>k _ _ (y b o q)) (fun _ _=>trivial) (fun _ _ _ _ _=>trivial)
  abn hpL hkL (fun _ _=>recFacts_nil rfl) (by kernel_rfl) k1 okL T9 ahS call
end
section
def WQ(w':World):Prop:=WalkO qv lz (fun _ _=>True) (fun w h=>w=w'∧YP w h) lw.row.toRowW dL [] fun f vs=>PySem.call f vs
theorem nw:Nonempty World:=⟨fun _ _=>0,{strHash:=fun _=>0,shareClass:=fun _=>0,mergeTok:=fun x=>x,idOf:=fun _=>0,idOfShared:=fun _ _=>0,followText:=fun _=>false,idOfImm:=fun _=>0}⟩
def w:World:=@Classical.epsilon World nw fun w'=>¬WQ w'
def aa:Heap:=hF w.params
theorem Sl(h:WQ w):WalkO qv lz (fun _ _=>True) YP lw.row.toRowW dL [] fun f vs=>PySem.call f vs:=
 fun w'=>Classical.byContradiction fun n=>absurd h (@Classical.epsilon_spec World (fun w'=>¬WQ w') ⟨w',fun k=>n fun sx bV mg mb G y=>k w' sx bV mg mb G ⟨rfl,y⟩⟩)
end
section
def jQ(h:Heap)(O:Addr→Prop):Prop:=∀b,O b→(h.get? b).isSome=true
theorem jQ.new(k:jQ h O):¬O h.objs.size:=fun x=>by
 have:=k _ x
 rw[dU]at this;cases this
def PO(w:World)(O:Addr→Prop)(s:Shared)(d:AV)(v:Value)(s':Shared):Prop:=Res.casesOn (motive:=fun _=>Prop) (lL d) (fun d=>PV w O s d v s') (fun c=>PF w O s c v s') fun _=>False
section
variable {O:Addr→Prop} {C:Value→Prop}
@[elab_as_elim] theorem Ow(e:xH d f=some r)(p:RC w h O v d)(k:∀i,f i=some r→C (.bool i)):C v:=xI (C:=fun d=>RC w h O v d→C v) e (fun i e p=>(show v=_ from p)▸k i e) p
@[elab_as_elim] theorem bO(e:bD d f=some r)(p:RC w h O v d)(k:∀i t,f i=some r→C (.int i t)):C v:=nG (C:=fun d=>RC w h O v d→C v) e (fun i e p=>kG.casesOn (motive:=fun v _=>C v) p fun t=>k i t e) p
@[elab_as_elim] theorem r8(e:pb d f=some r)(p:RC w h O v d)(k:∀i t,f i=some r→i.length≤16777216→C (.str i t)):C v:=Cm (C:=fun d=>RC w h O v d→C v) e (fun i e p=>sN.casesOn (motive:=fun v _=>C v) p fun t n=>k i t e n) p
@[elab_as_elim] theorem vz(e:kQ d f=some r)(p:RC w h O v d)(k:∀(b:List UInt8) t,f b=some r→b.length≤16777216→C (.bytes b.toArray t)):C v:=KH (C:=fun d=>RC w h O v d→C v) e (fun i e p=>sM.casesOn (motive:=fun v _=>C v) p fun t n=>k i t e n) p
@[elab_as_elim] theorem Em(e:my d f=some r)(p:RC w h O v d)(k:∀l a vs,f l=some r→¬O a→TupAt h a vs→au w h O vs l→C (.ref a)):C v:=nJ (C:=fun d=>RC w h O v d→C v) e (fun i e p=>IsTup.casesOn (motive:=fun v _=>C v) p fun n x y=>k i _ _ e n x y) p
@[elab_as_elim] theorem pL(e:getL d f=some r)(p:RC w h O v d)(k:∀l a vs,f l=some r→LstAt h a vs→au w h O vs l→C (.ref a)):C v:=xF (C:=fun d=>RC w h O v d→C v) e (fun i e p=>iw.casesOn (motive:=fun v _=>C v) p fun n x y=>k i _ _ e x y) p
@[elab_as_elim] theorem Ov(e:xG d f=some r)(p:RC w h O v d)(k:∀c l a dx es,f c l=some r→h.get? a=some (instObj c dx)→cX h dx es→eB w h O es l→C (.ref a)):C v:=aaT (C:=fun d=>RC w h O v d→C v) e (fun c i e p=>jn.casesOn (motive:=fun v _=>C v) p fun n m x y z=>k c i _ _ _ e x y z) p
end
section
theorem gP:PV w O s (.int i) (.int i t) {s with toks:=k}:=⟨Kp.tok,.int i t⟩
theorem xD(x:au w s.heap O vs l)(n:vs.length≤16777216):
  PF w O s (.lst l) (.ref s.heap.objs.size) {s with heap:=s.heap.push {cls:=.type "list",data:=.seq vs.toArray},toks:=t}:=by
 refine⟨Kp.push,(s.heap.objs.size,0),rfl,fun b e=>by rw[show b=_ from e];exact dU,vs,⟨n,0,Heap.get?_push_size _ rfl⟩,?_⟩
 refine x.mv ⟨fun b o e _=>Heap.get?_push_of_some _ e,fun b e nO h=> ?_⟩
 rcases h with h|h
 ·exact nO h
 ·rw[show b=_ from h,dU]at e;cases e
theorem Ed(hO:jQ s.heap O)(x:au w s.heap O vs l)(n:vs.length≤16777216):
  PV w O s (.tup l) (.ref s.heap.objs.size) {s with heap:=s.heap.push {cls:=.type "tuple",data:=.seq vs.toArray},toks:=t}:=
 ⟨Kp.push,.tup hO.new ⟨n,0,Heap.get?_push_size _ rfl⟩ (x.mv Kp.push.mv)⟩
theorem Hf(h:eJ a=true):Builtin.Int.intBits a≤64:=by
 have hb:a.natAbs<2^41:=lt_of_le_of_lt (le_of_ble_eq_true h) (by decide)
 unfold Builtin.Int.intBits
 split
 ·omega
 ·rename_i h0
  have h1:a.natAbs≠0:=by intro e;apply h0;simpa using Int.natAbs_eq_zero.mp e
  have:a.natAbs.log2<41:=(Nat.log2_lt h1).mpr hb
  omega
theorem NS(h:eJ b=true):Builtin.divisionGoesByPylong a b=false:=by
 have hb:b.natAbs<2^41:=lt_of_le_of_lt (le_of_ble_eq_true h) (by decide)
 refine PyProof.noPylong_of_log2 ?_
 by_cases h0:b.natAbs=0
 ·rw[h0];decide+kernel
 ·have nL:b.natAbs.log2<41:=(Nat.log2_lt h0).mpr hb
  omega
theorem bW.rep(x:au w h O vs l):∀n:Nat,au w h O (replicate n vs).flatten (replicate n l).flatten
 |0=>.nil
 |n+1=>x.app (x.rep n)
theorem Ks(vs:List Value):∀(n) (acc:List Value),(replicate n vs.toArray).foldl (fun x1 x2=>x1++x2) acc.toArray=(acc++(replicate n vs).flatten).toArray
 |0,acc=>by simp
 |n+1,acc=>by
  rw[replicate_succ,replicate_succ,flatten_cons,foldl_cons,append_toArray,Ks vs n,append_assoc]
end
noncomputable def DY:BO→Operator
 |.add=>.Add|.sub=>.Sub|.mul=>.Mult|.fdiv=>.FloorDiv|.mod=>.Mod|.band=>.BitAnd|.bor=>.BitOr|.pow=>.Pow
section
theorem Si(e:FI x y=some d)(hO:jQ s.heap O)(a:RC w s.heap O v x)(b:RC w s.heap O u y):
  wpAny (ah w) A (binaryOp .Add v u) (PO w O s d) E s:=by
 cases x with
 |int i=>
  cases a with|mk t=>
  refine bO e b fun j t' e=> ?_
  refine aC e ?_
  exact add_int gP
 |bytes i=>
  cases a with|mk t n=>
  refine vz e b fun j t' e m=>aX e fun h e=> ?_
  refine aC e ?_
  refine KBy.add_bytes (by simpa [lim] using bK h) fun t' k=> ?_
  rw[append_toArray]
  exact⟨Kp.tok,.bytes _ _ (by simpa [lim] using bK h)⟩
 |str i=>
  cases a with|mk t n=>
  refine r8 e b fun j t' e m=>aX e fun h e=> ?_
  refine aC e ?_
  exact PyProof.Rows.add_str (fun t' k=>⟨Kp.tok,.str _ _ (by rw[strLen_append];exact bK h)⟩) (by rw[sizeLine_eq];exact bK h)
 |lst i=>
  cases a with|mk k1 l1 r1=>
  refine pL e b fun j q us e l2 r2=>aX e fun h e=> ?_
  refine aC e ?_
  have h:=bK h
  rw[←r1.length,←r2.length]at h
  simp only[lim]at h
  refine l1.2.elim fun m1 e1=>l2.2.elim fun m2 e2=>P.add_list e1 e2 ?_ (by rw[sizeLine_eq];simpa using h)
  rw[append_toArray]
  exact xD (r1.app r2) (by simpa using h)
 |tup i=>
  cases a with|mk k1 l1 r1=>
  refine Em e b fun j q us e k2 l2 r2=> ?_
  obtain⟨n1,m1,e1⟩:=l1
  obtain⟨n2,m2,e2⟩:=l2
  refine jN e (fun h e=> ?_) (fun h1 e=>aX e fun h e=> ?_)
  ·refine aC e ?_
   rw[isEmpty_iff]at h;subst h
   cases r1
   exact concat_meets ⟨_,e1,rfl⟩ ⟨_,e2,rfl⟩ noFill_tuple_add seq_tuple_add F.slot_tuple_add F.entry_tuple_add (F.args_tuple_add_2 _ _) (AutoSeq1.tuple___add___tuple_tuple_0 _ _ m1 q _ m2 rfl) ⟨e1,e2,⟨Kp.refl,.tup k2 ⟨n2,m2,e2⟩ r2⟩⟩
  ·refine aC e ?_
   have h:=bK h
   have z1:=r1.length
   have z2:=r2.length
   have y1:i.length≠0:=fun q=>by rw[List.length_eq_zero_iff.mp q]at h1;cases h1
   have y2:j.length≠0:=fun q=>by rw[List.length_eq_zero_iff.mp q]at h;cases h.2.2
   refine P.add_tuple e1 e2 (by simp;exact fun q=>by rw[q]at z1;exact y1 z1.symm) (by simp;exact fun q=>by rw[q]at z2;exact y2 z2.symm) ?_ (by rw[sizeLine_eq];simp;omega)
   rw[append_toArray]
   exact Ed hO (r1.app r2) (by simp;omega)
 |_=>exact ba e
theorem ajd(vs:List Value)(n):(replicate (if vs.toArray.isEmpty=true then 0 else n) vs.toArray).foldl (fun x1 x2=>x1++x2) #[]=(replicate n vs).flatten.toArray:=by
 cases vs with
 |nil=>simp
 |cons z zs=>simpa using Ks (z::zs) n []
theorem af8(e:Ni x y=some d)(a:RC w s.heap O v x)(b:RC w s.heap O u y):
  wpAny (ah w) A (binaryOp .Mult v u) (PO w O s d) E s:=by
 refine bO e b fun n t' e=> ?_
 cases x with
 |int i=>
  cases a with|mk t=>
  refine aX e fun h e=> ?_
  refine aC e ?_
  exact(or_eq_true_iff.mp h).elim (fun h=>mul_int gP (.of_left (Hf h))) fun h=>mul_int gP (.of_right (Hf h))
 |bytes i=>
  cases a with|mk t z=>
  refine aX e fun h e=> ?_
  refine aC e ?_
  have h:=bK h
  refine bytes_mul_any (by intro q;rw[q]at h;simp at h) (by omega) h.2.1 h.2.2.1 fun t' k=>⟨Kp.tok,.bytes _ _ ?_⟩
  simp only[List.length_flatten,map_replicate,List.sum_replicate_nat]
  have:=Nat.mul_le_mul (show _≤1048576 from Int.toNat_le.mpr h.2.1) h.2.2.1
  omega
 |str i=>
  cases a with|mk t z=>
  refine aX e fun h e=> ?_
  refine aC e ?_
  rw[bK h]
  exact SB.mul ⟨by decide,fun h=>absurd (by decide) h,fun h=>absurd (by decide) h⟩ fun t' k=>⟨Kp.tok,.str ⟨#[]⟩ _ (by decide)⟩
 |lst i=>
  cases a with|mk k1 l1 r1=>
  refine aX e fun h e=> ?_
  refine aC e ?_
  have h:=bK h
  rw[←r1.length]at h
  obtain⟨n1,m1,e1⟩:=l1
  simp only[lim]at h
  refine wpAny_binaryOp_repeat_ref (T:="list") (U:="int") (by decide) ⟨_,e1,rfl⟩ (fun s'=>typeIs_int s' _ _) noFill_list_mul F.fills_int_mul F.slot_int_rmul repeat_list F.slot_int_index.lookup
   (call_meets F.slot_int_rmul (typeIs_int s _ _) F.entry_int_rmul (F.args_int_rmul_2 _ _) (int___rmul___int_list _ _ _ _ m1)
    ⟨e1,rfl,⟨_,e1,rfl⟩,call_meets F.slot_list_mul ⟨_,e1,rfl⟩ F.entry_list_mul (F.args_list_mul_2 _ _)
     (AutoListH.list___mul___list_int_3 _ _ m1 _ _ (by simp[Builtin.List.listFitsIndex];omega) (by simp;omega) (by simp[Builtin.List.listTooLong,sizeLine];omega))
     ⟨e1,?_⟩⟩)
  rw[ajd]
  refine xD (r1.rep _) ?_
  simp only[List.length_flatten,map_replicate,List.sum_replicate_nat]
  rw[Nat.mul_comm];omega
 |_=>exact ba e
theorem Uj(e:fZ o x y=some d)(hO:jQ s.heap O)(a:RC w s.heap O v x)(b:RC w s.heap O u y):
  wpAny (ah w) A (binaryOp (DY o) v u) (PO w O s d) E s:=by
 cases o with
 |add=>exact Si e hO a b
 |mul=>exact af8 e a b
 |sub=>refine bO e a fun i t e=> ?_;refine bO e b fun j t' e=> ?_;refine aC e ?_;exact sub_int gP
 |band=>refine bO e a fun i t e=> ?_;refine bO e b fun j t' e=> ?_;refine aC e ?_;exact and_int gP
 |bor=>refine bO e a fun i t e=> ?_;refine bO e b fun j t' e=> ?_;refine aC e ?_;exact or_int gP
 |mod=>refine bO e a fun i t e=> ?_;refine bO e b fun j t' e=>aX e fun h e=> ?_;refine aC e ?_;exact mod_int (bK h) gP
 |fdiv=>refine bO e a fun i t e=> ?_;refine bO e b fun j t' e=>aX e fun h e=> ?_;refine aC e ?_;exact aS h fun h1 h2=>floordiv_int (bK h1) gP (.inl (NS h2))
 |pow=>
  refine bO e a fun i t e=> ?_;refine bO e b fun j t' e=>aX e fun h e=> ?_;refine aC e ?_
  rw[(bK h).1,(bK h).2]
  exact AutoIntOps.pow_4 (by decide) (by decide) (by decide) (by decide) (by decide+kernel) gP
end
end
section
open PySem.SeqAt
section
theorem FP{α:Type}{a b:List α}(h:a.toArray=b.toArray):a=b:=congrArg Array.toList h
theorem BQ:∀(xs:List AV) {ys:List AV} {b},j0 f xs ys=some b→xs.length=ys.length∧
  (∀j,j<xs.length→∃c,f (xs.getD j .none) (ys.getD j .none)=some c)∧
  (List.range xs.length).all (fun j=>(f (xs.getD j .none) (ys.getD j .none)).getD false)=b:=fun xs=>by
 induction xs with
 |nil=>exact fun {ys b} e=>jN e (fun h e=>by
   rw[isEmpty_iff.mp h]
   exact⟨rfl,fun j h=>absurd h (not_lt_zero _),Option.some.inj e⟩) fun _ e=>ba e
 |cons x xs ih=>
  intro ys b e
  refine lI e fun y ys e=>aK e fun c h1 e=>aK e fun d h2 e=> ?_
  refine aC e ?_
  have k:=ih h2
  refine⟨congrArg Nat.succ k.1,fun j=> ?_,?_⟩
  ·cases j with
   |zero=>exact fun _=>⟨c,h1⟩
   |succ j=>exact fun hj=>k.2.1 j (Nat.lt_of_succ_lt_succ hj)
  ·rw[length_cons,List.range_succ_eq_map,all_cons,List.all_map,←k.2.2]
   exact congrArg (· &&_) (congrArg (Option.getD · false) h1)
theorem KG{l:List AV}(h:j<l.length):l[j]? =some (l.getD j .none):=by
 rw[getElem?_eq_getElem h,getD_eq_getElem?_getD,getElem?_eq_getElem h];rfl
theorem Bool.both(b:Bool)(h:b=true):b=true:=h
theorem xm(hf:∀x y b v,f x y=some b→RV w h O v x→RV w h O v y→b=true):∀(xs ys:List AV) (b) (vs),j0 f xs ys=some b→au w h O vs xs→au w h O vs ys→b=true:=fun xs=>by
 induction xs with
 |nil=>exact fun ys b vs e _ _=>jN e (fun _ e=>(Option.some.inj e).symm) fun _ e=>ba e
 |cons x xs ih=>
  intro ys b vs e p
  cases p with|mk p1 p2=>
  refine lI e fun y ys e=>aK e fun c h1 e=>aK e fun d h2 e=>fun q=> ?_
  cases q with|mk q1 q2=>
  refine aC e ?_
  rw[hf _ _ _ _ h1 p1 q1,ih _ _ _ h2 p2 q2];rfl
theorem vI{h:Heap}{a:Addr}{vs us:List Value}{n m:Nat}{c:Value}(e:h.get? a=some ⟨c,none,.seq vs.toArray n,#[]⟩)(e':h.get? a=some ⟨c,none,.seq us.toArray m,#[]⟩):vs=us:=by
 have:=Option.some.inj (e.symm.trans e')
 simp only[Obj.mk.injEq,Data.seq.injEq,true_and,and_true]at this
 exact FP this.1
theorem MB{h:Heap}{R R':List Value→Prop}(k:∀vs,R vs→R' vs→b=true)(p:iw h O R v):iw h O R' v→b=true:=by
 cases p with|mk n1 a1 r1=>
 intro q
 cases q with|mk n2 a2 r2=>exact a1.2.elim fun m1 e1=>a2.2.elim fun m2 e2=>k _ r1 (vI e2 e1▸r2)
theorem amn{h:Heap}{R R':List Value→Prop}(k:∀vs,R vs→R' vs→b=true)(p:IsTup h O R v):IsTup h O R' v→b=true:=by
 cases p with|mk n1 a1 r1=>
 intro q
 cases q with|mk n2 a2 r2=>exact a1.2.elim fun m1 e1=>a2.2.elim fun m2 e2=>k _ r1 (vI e2 e1▸r2)
theorem BN:∀(n:Nat) (x y:AV) (b:Bool) (v:Value),eS n x y=some b→RV w h O v x→RV w h O v y→b=true:=fun n=>by
 induction n with
 |zero=>exact fun _ _ _ _ e=>ba e
 |succ n ih=>
  intro x y b v e p
  cases x with
  |int i=>exact nG (C:=fun y=>RV w h O v y→b=true) e fun j e q=>by cases p;cases q;refine aC e ?_;exact beq_self_eq_true i
  |bool i=>exact xI (C:=fun y=>RV w h O v y→b=true) e fun j e q=>by cases p;cases q;refine aC e ?_;exact beq_self_eq_true i
  |str i=>exact Cm (C:=fun y=>RV w h O v y→b=true) e fun j e q=>by cases p;cases q;refine aC e ?_;exact beq_self_eq_true i
  |tup xs=>exact nJ (C:=fun y=>RV w h O v y→b=true) e fun ys e q=>aX e fun _ e=>amn (fun vs r1 r2=>xm ih xs ys b vs e r1 r2) p q
  |lst xs=>exact xF (C:=fun y=>RV w h O v y→b=true) e fun ys e q=>jN e (fun _ e=>MB (fun vs r1 r2=>xm ih xs ys b vs e r1 r2) p q) fun hl e=>absurd (MB (b:=decide (xs.length=ys.length)) (fun vs r1 r2=>decide_eq_true (r1.length.symm.trans r2.length)) p q) (by rw[decide_eq_true_eq];exact fun q=>by rw[q,beq_self_eq_true]at hl;cases hl)
  |_=>exact ba e
variable {A:Around}
theorem yC{f:AV→AV→Option Bool}{n:Nat}{vs us:List Value}(ih:∀{x y:AV} {b:Bool} {v u:Value} {A:Around},f x y=some b→RV w s.heap O v x→RV w s.heap O u y→A.units+n<cLine→EqAt A s v u b)
  (e:j0 f xs ys=some b) (r1:au w s.heap O vs xs) (r2:au w s.heap O us ys) (hu:A.units+(n+1)<cLine):
  ∀j (h1:j<vs.toArray.size) (h2:j<us.toArray.size),EqAt A.in1 s vs.toArray[j] us.toArray[j] ((f (xs.getD j .none) (ys.getD j .none)).getD false):=by
 intro j h1 h2
 have k:=BQ xs e
 have hj:j<xs.length:=r1.length▸h1
 refine(k.2.1 j hj).elim fun c hc=>(r1.at j _ (KG hj)).elim fun v1 z1=>(r2.at j _ (KG (k.1▸hj))).elim fun v2 z2=> ?_
 rw[hc,show vs.toArray[j]=v1 from Option.some.inj ((getElem?_eq_getElem h1).symm.trans z1.1),show us.toArray[j]=v2 from Option.some.inj ((getElem?_eq_getElem h2).symm.trans z2.1)]
 exact ih hc z1.2 z2.2 (by rw[show A.in1.units=A.units+1 from rfl,add_assoc,add_comm 1 n];exact hu)
theorem TupAt.jE(x:TupAt h a vs):h.IsTuple a vs.toArray:=let⟨_,n,e⟩:=x;⟨_,e,rfl,n,rfl⟩
theorem Mt(ih:∀{x y:AV} {b:Bool} {v u:Value} {A:Around},f x y=some b→RV w s.heap O v x→RV w s.heap O u y→A.units+n<cLine→EqAt A s v u b)
  (e:sw (xs.length==ys.length) (j0 f xs ys) (some false)=some b) (a1:LstAt s.heap p vs) (a2:LstAt s.heap q us) (r1:au w s.heap O vs xs) (r2:au w s.heap O us ys) (hu:A.units+(n+1)<cLine):RcAt A s (.ref p) (.ref q) b∧RcNeAt A s (.ref p) (.ref q) (!b):=
 jN e (fun hl e=>by
   have hz:vs.toArray.size=us.toArray.size:=(r1.length.trans (eq_of_beq hl)).trans r2.length.symm
   have h1:=RcAt.lists (A:=A) a1.isList a2.isList hz (by omega) (yC ih e r1 r2 hu)
   have h2:=RcNeAt.lists (A:=A) a1.isList a2.isList hz (by omega) (yC ih e r1 r2 hu)
   rw[show vs.toArray.size=_ from r1.length,(BQ xs e).2.2]at h1 h2
   exact⟨h1,h2⟩) fun hl e=>by
  have hz:(vs.toArray.size !=us.toArray.size)=true:=by rw[show vs.toArray.size=_ from r1.length,show us.toArray.size=_ from r2.length];exact congrArg (!·) hl
  cases e
  exact⟨RcAt.lists_lengths a1.isList a2.isList hz (by omega),RcNeAt.lists_lengths a1.isList a2.isList hz (by omega)⟩
theorem Pz(ih:∀{x y:AV} {b:Bool} {v u:Value} {A:Around},f x y=some b→RV w s.heap O v x→RV w s.heap O u y→A.units+n<cLine→EqAt A s v u b)
  (e:aJ (xs.length==ys.length) (j0 f xs ys)=some b) (a1:TupAt s.heap p vs) (a2:TupAt s.heap q us) (r1:au w s.heap O vs xs) (r2:au w s.heap O us ys) (hu:A.units+(n+1)<cLine):RcAt A s (.ref p) (.ref q) b∧RcNeAt A s (.ref p) (.ref q) (!b):=
 aX e fun hl e=>by
  have hz:vs.toArray.size=us.toArray.size:=(r1.length.trans (eq_of_beq hl)).trans r2.length.symm
  have h1:=RcAt.tuples (A:=A) a1.jE a2.jE (by omega) (yC ih e r1 r2 hu)
  have h2:=RcNeAt.tuples (A:=A) a1.jE a2.jE (by omega) (yC ih e r1 r2 hu)
  rw[hz,Nat.min_self,←hz,beq_self_eq_true,Bool.and_true,show vs.toArray.size=_ from r1.length,(BQ xs e).2.2]at h1 h2
  exact⟨h1,h2⟩
theorem BM:∀(n:Nat) {x y:AV} {b:Bool} {v u:Value} {A:Around},eS n x y=some b→RV w s.heap O v x→RV w s.heap O u y→A.units+n<cLine→EqAt A s v u b:=fun n=>by
 induction n with
 |zero=>exact fun e _ _ _=>ba e
 |succ n ih=>
  intro x y b v u A e p q hu
  cases x with
  |int i=>cases p with|mk t=>refine bO e (.of q) fun j t' e=> ?_;refine aC e ?_;exact EqAt.int_int _ _ _ _
  |bool i=>cases p;refine Ow e (.of q) fun j e=> ?_;refine aC e ?_;exact EqAt.bool_bool _ _
  |str i=>cases p with|mk t=>refine r8 e (.of q) fun j t' e _=> ?_;refine aC e ?_;exact EqAt.str_str _ _ _ _
  |lst xs=>
   have p0:=p
   cases p with|mk n1 a1 r1=>
   have e0:=e
   revert q
   refine xF (C:=fun y=>RV w s.heap O u y→_) e fun ys e q=> ?_
   have q0:=q
   revert q0
   cases q with|mk n2 a2 r2=>
   intro q0
   refine dite (_=_) (fun h=> ?_) fun h=>EqAt.of_refs h (Mt ih e a1 a2 r1 r2 hu).1
   subst h
   rw[jN e (fun _ e=>xm (BN n) xs ys b _ e r1 (a1.2.elim fun m1 e1=>a2.2.elim fun m2 e2=>vI e2 e1▸r2)) fun hl _=>absurd (a1.2.elim fun m1 e1=>a2.2.elim fun m2 e2=>r1.length.symm.trans ((congrArg List.length (vI e1 e2)).trans r2.length)) fun z=>by rw[z,beq_self_eq_true]at hl;cases hl]
   exact EqAt.same _
  |tup xs=>
   cases p with|mk n1 a1 r1=>
   revert q
   refine nJ (C:=fun y=>RV w s.heap O u y→_) e fun ys e q=> ?_
   cases q with|mk n2 a2 r2=>
   refine dite (_=_) (fun h=> ?_) fun h=>EqAt.of_refs h (Pz ih e a1 a2 r1 r2 hu).1
   subst h
   rw[aX e fun _ e=>xm (BN n) xs ys b _ e r1 (a1.2.elim fun m1 e1=>a2.2.elim fun m2 e2=>vI e2 e1▸r2)]
   exact EqAt.same _
  |_=>exact ba e
end
section
open AutoSeq1 (wpAny_loadPart')
open MeetsSeq MeetsSeq2 MeetsSeq3 SeqRoads2
theorem amq(l b:Addr)(n n2)(a1 a2 b1 b2)(t1 t2 u1 u2):
  Meets (Builtin.«tuple.__lt__» ⟨[.ref l,.ref b],[]⟩)
   (fun _ R s=>s.heap.get? l=some {cls:=.type "tuple",dict:=none,data:=.seq #[.int a1 t1,.int a2 t2] n,slots:=#[]}∧s.heap.get? b=some {cls:=.type "tuple",dict:=none,data:=.seq #[.int b1 u1,.int b2 u2] n2,slots:=#[]}∧
    R (.ok (.ret (.bool (if a1=b1 then decide (a2<b2)else decide (a1<b1))))) s):=
 .of_wp fun prog w A R s h=>by
  obtain⟨hp,g,d,tk,os⟩:=s;obtain⟨hl,hb,h⟩:=h
  have f2:=AutoSeq1.sub_tuple_tuple
  wp_walk using wpAny_loadPart' hl,wpAny_loadPart' hb,wpAny_forIn_list _ (fun(rest:List (Value×Value)) b s'=>b.1=none∧s'=⟨hp,g,d,tk,os⟩∧
   (rest=[(.int a1 t1,.int b1 u1),(.int a2 t2,.int b2 u2)]∨(rest=[(.int a2 t2,.int b2 u2)]∧a1=b1)∨(rest=[]∧a1=b1∧a2=b2))) _
  case turn=>
   rintro ⟨y,x⟩ rest b s' ⟨lH,rfl,hz⟩
   rcases hz with hz|⟨hz,e1⟩|⟨hz,_⟩
   ·injection hz with Dc C5
    injection Dc with h1 h2
    subst h1 h2 C5
    refine wpAny_bind (EqAt.int_int a1 t1 b1 u1 prog w _ _ ?_)
    by_cases e:a1=b1
    ·rw[show(a1==b1)=true from by simpa using e]
     wp_walk
     exact⟨rfl,rfl,.inr (.inl ⟨rfl,e⟩)⟩
    ·rw[show(a1==b1)=false from by simpa using e]
     rw[if_neg e]at h
     simp only[Bool.not_false,if_true]
     refine wpAny_bind (wpAny_rule (wpAny_bind (lt_int (t:=t1) (u:=u1) ?_)))
     wp_walk
     exact⟨_,rfl,h⟩
   ·injection hz with Dc C5
    injection Dc with h1 h2
    subst h1 h2 C5
    refine wpAny_bind (EqAt.int_int a2 t2 b2 u2 prog w _ _ ?_)
    rw[if_pos e1]at h
    by_cases e:a2=b2
    ·rw[show(a2==b2)=true from by simpa using e]
     wp_walk
     exact⟨rfl,rfl,.inr (.inr ⟨rfl,e1,e⟩)⟩
    ·rw[show(a2==b2)=false from by simpa using e]
     simp only[Bool.not_false,if_true]
     refine wpAny_bind (wpAny_rule (wpAny_bind (lt_int (t:=t2) (u:=u2) ?_)))
     wp_walk
     exact⟨_,rfl,h⟩
   ·cases hz
  case fin=>
   rintro ⟨c1,c2⟩ s' ⟨lH,rfl,hz⟩
   simp only at lH
   subst lH
   rcases hz with hz|⟨hz,e1⟩|⟨hz,e1,e2⟩
   ·cases hz
   ·cases hz
   ·wp_walk
    rw[if_pos e1,e2]at h
    exact⟨_,rfl,by simpa [Builtin.Tuple.tupleCompareSizes] using h⟩
  case h=>
   exact⟨rfl,rfl,.inl rfl⟩
end
noncomputable def dK:CO→CmpOp
 |.eq=>.Eq|.ne=>.NotEq|.lt=>.Lt|.le=>.LtE|.gt=>.Gt|.ge=>.GtE|.hM=>.Is|.hN=>.IsNot|.fQ=>.In|.kZ=>.NotIn
section
variable {O:Addr→Prop} {s:Shared} {A:Around} {E:Value→Shared→Prop} {x y:AV} {b:Bool} {v u:Value}
theorem Ox(e:eS 8 x y=some b)(p:RC w s.heap O v x)(q:RC w s.heap O u y)(hu:A.units+8<cLine):RcAt A s v u b∧RcNeAt A s v u (!b):=by
 cases x with
 |int i=>cases p with|mk t=>refine bO e q fun j t' e=> ?_;refine aC e ?_;exact⟨RcAt.int_int _ _ _ _,RcNeAt.int_int _ _ _ _⟩
 |bool i=>cases p;refine Ow e q fun j e=> ?_;refine aC e ?_;exact⟨RcAt.bool_bool _ _,RcNeAt.bool_bool _ _⟩
 |str i=>cases p with|mk t=>refine r8 e q fun j t' e _=> ?_;refine aC e ?_;exact⟨RcAt.str_str _ _ _ _,RcNeAt.str_str _ _ _ _⟩
 |lst xs=>cases p with|mk n1 a1 r1=>refine pL e q fun ys a vs e a2 r2=> ?_;exact Mt (BM 7) e a1 a2 r1 r2 hu
 |tup xs=>cases p with|mk n1 a1 r1=>refine Em e q fun ys a vs e _ a2 r2=> ?_;exact Pz (BM 7) e a1 a2 r1 r2 hu
 |_=>exact ba e
theorem RC.rv(p:RC w h O v x)(n:lD x=false):RV w h O v x:=by
 cases x with
 |lst=>cases n
 |aq=>cases n
 |inst=>cases n
 |_=>exact p
theorem RC.isNone(p:RC w h O v x):(v==.none)=pk x:=by cases x<;>cases p<;>rfl
noncomputable def Ly(i:Int)(z:Value):Bool:=if h:z.ctorIdx=4 then Value.int.elim (motive:=fun _=>Bool) z h fun j _=>j==i else false
theorem acm:∀(l) {is:List Int} {vs:List Value},intsOf l=some is→au w h O vs l→(∀z∈vs,∃j t,z=.int j t)∧vs.any (Ly i)=is.contains i:=fun l=>by
 induction l with
 |nil=>
  intro is vs e r
  refine aC e ?_
  cases r
  exact⟨(fun _ h=>nomatch h),rfl⟩
 |cons d l ih=>
  intro is vs e r
  cases r with|mk p r=>
  refine bO e (.of p) fun j t e=>aK e fun js e1 e=> ?_
  refine aC e ?_
  have k:=ih e1 r
  refine⟨fun z hz=>(mem_cons.mp hz).elim (fun q=>⟨j,t,q⟩) (k.1 z),?_⟩
  rw[any_cons,k.2,List.contains_cons]
  exact congrArg (· ||_) (Bool.beq_comm)
theorem ints_in(e:intsOf l=some is)(a:TupAt s.heap p vs)(r:au w s.heap O vs l):
  wpAny (ah w) A (compareOp .In (.int i t) (.ref p)) (fun z s'=>z=.bool (is.contains i)∧s'=s) E s∧wpAny (ah w) A (compareOp .NotIn (.int i t) (.ref p)) (fun z s'=>z=.bool (!is.contains i)∧s'=s) E s:=by
 have k:=acm (i:=i) l e r
 have he:∀z,z∈vs.toArray→EqAt A.in1 s z (.int i t) (Ly i z):=fun z hz=>(k.1 z (by simpa using hz)).elim fun j h=>h.elim fun t' h=>h▸EqAt.int_int _ _ _ _
 exact⟨in_tupleAt _ a.jE he ⟨by rw[←k.2];simp,rfl⟩,notIn_tupleAt _ a.jE he ⟨by rw[←k.2];simp,rfl⟩⟩
theorem IY(hf:∀x y,f x y=some true→x=y):∀xs ys,j0 f xs ys=some true→xs=ys:=fun xs=>by
 induction xs with
 |nil=>exact fun ys e=>jN e (fun h e=>(isEmpty_iff.mp h).symm) fun _ e=>ba e
 |cons x xs ih=>
  intro ys e
  refine lI e fun y ys e=>aK e fun c h1 e=>aK e fun d h2 e=> ?_
  have k:=(and_eq_true c d).mp (Option.some.inj e)
  rw[hf x y (h1.trans (congrArg some k.1)),ih ys (h2.trans (congrArg some k.2))]
theorem YA:∀(n:Nat) (x y),eS n x y=some true→x=y:=fun n=>by
 induction n with
 |zero=>exact fun _ _ e=>ba e
 |succ n ih=>
  intro x y e
  cases x with
  |int i=>exact nG (C:=fun y=>AV.int i=y) e fun j e=>congrArg AV.int (eq_of_beq (Option.some.inj e))
  |bool i=>exact xI (C:=fun y=>AV.bool i=y) e fun j e=>congrArg AV.bool (eq_of_beq (Option.some.inj e))
  |str i=>exact Cm (C:=fun y=>AV.str i=y) e fun j e=>congrArg AV.str (eq_of_beq (Option.some.inj e))
  |tup xs=>exact nJ (C:=fun y=>AV.tup xs=y) e fun ys e=>aX e fun _ e=>congrArg AV.tup (IY ih xs ys e)
  |lst xs=>exact xF (C:=fun y=>AV.lst xs=y) e fun ys e=>jN e (fun _ e=>congrArg AV.lst (IY ih xs ys e)) fun _ e=>noConfusion (Option.some.inj e)
  |_=>exact ba e
def yc(w:World)(h:Heap)(O:Addr→Prop)(x:AV)(y:Value):Bool:=@decide (RV w h O y x) (Classical.propDecidable _)
theorem Sm:∀(l) {vs:List Value} {b},oQ x l=some b→au w h O vs l→(∀y∈vs,∃d,RV w h O y d∧eS 8 d x=some (yc w h O x y))∧vs.any (yc w h O x)=b:=fun l=>by
 induction l with
 |nil=>
  intro vs b e r
  refine aC e ?_
  cases r
  exact⟨(fun _ h=>nomatch h),rfl⟩
 |cons d l ih=>
  intro vs b e r
  cases r with|@mk y vs p r=>
  refine aK e fun c h1 e=>aK e fun c' h2 e=> ?_
  have k:=ih h2 r
  have hc:yc w h O x y=c:=by
   cases c with
   |true=>exact @decide_eq_true _ (Classical.propDecidable _) (YA 8 _ _ h1▸p)
   |false=>exact @decide_eq_false _ (Classical.propDecidable _) fun q=>noConfusion (BN 8 _ _ _ _ h1 p q)
  refine⟨fun z hz=>(mem_cons.mp hz).elim (fun q=>⟨d,q▸p,by rw[q,hc];exact h1⟩) (k.1 z),?_⟩
  rw[any_cons,k.2,hc];exact Option.some.inj e
theorem Ms(e:oQ x l=some b)(n:lD x=false)(p:RC w s.heap O v x)(q:LstAt s.heap a vs)(r:au w s.heap O vs l)(hu:A.units+20<cLine):
  wpAny (ah w) A (compareOp .In v (.ref a)) (fun z s'=>z=.bool b∧s'=s) E s∧wpAny (ah w) A (compareOp .NotIn v (.ref a)) (fun z s'=>z=.bool (!b)∧s'=s) E s:=by
 have k:=Sm l e r
 have he:∀z,z∈vs.toArray→EqAt A.in1 s z v (yc w s.heap O x z):=fun z hz=>(k.1 z (by simpa using hz)).elim fun d h=>BM 8 h.2 h.1 (p.rv n) (by show A.units+1+8<_;omega)
 exact⟨in_listAt _ q.isList he ⟨by rw[←k.2];simp,rfl⟩,notIn_listAt _ q.isList he ⟨by rw[←k.2];simp,rfl⟩⟩
theorem bW.two{h:Heap}{vs:List Value}{a b:AV}{C:List Value→Prop}(r:au w h O vs [a,b])(k:∀x y,RV w h O x a→RV w h O y b→C [x,y]):C vs:=by
 cases r with|mk p r=>cases r with|mk q r=>cases r;exact k _ _ p q
theorem IV{P:Bool→Value→Value→Prop}(e:eqT x y=some b)(p:RC w s.heap O v x)(q:RC w s.heap O u y)(k1:∀(a b:List UInt8) t t',P (a==b) (.bytes a.toArray t) (.bytes b.toArray t'))(k2:eS 8 x y=some b→P b v u):P b v u:=by
 by_cases h:x.ctorIdx=4
 ·revert e p
  refine AV.bytes.elim (motive_1:=fun x=>eqT x y=some b→RC w s.heap O v x→P b v u) x h fun a e p=> ?_
  cases p with|mk t=>
  refine vz e q fun j t' e _=> ?_
  refine aC e ?_
  exact k1 _ _ _ _
 ·unfold eqT at e
  rw[dif_neg h]at e
  exact k2 e
theorem afg(e:MC x y=some b)(p:RC w s.heap O v x)(q:RC w s.heap O u y)(hu:A.units+20<cLine):wpAny (ah w) A (compareOp .Lt v u) (fun z s'=>z=.bool b∧s'=s) E s:=by
 cases x with
 |int i=>cases p with|mk t=>refine bO e q fun j t' e=> ?_;refine aC e ?_;exact lt_int ⟨rfl,rfl⟩
 |tup l=>
  cases p with|mk n1 t1 r1=>
  refine Em e q fun l' a2 us e _ t2 r2=> ?_
  revert r1 r2
  refine vV (C:=fun l=>au w s.heap O _ l→au w s.heap O us l'→_) e fun a1 a2 e=> ?_
  refine vV (C:=fun l'=>au w s.heap O _ [a1,a2]→au w s.heap O us l'→_) e fun b1 b2 e=> ?_
  intro r1 r2
  revert t1 t2
  refine r1.two (C:=fun vs=>TupAt s.heap _ vs→_) fun _ _ p1 p2=> ?_
  refine r2.two (C:=fun us=>_→TupAt s.heap _ us→_) fun _ _ q1 q2=> ?_
  refine bO e (.of p1) fun i1 _ e=> ?_
  refine bO e (.of p2) fun i2 _ e=> ?_
  refine bO e (.of q1) fun j1 _ e=> ?_
  refine bO e (.of q2) fun j2 _ e=> ?_
  refine aC e ?_
  exact fun t1 t2=>t1.2.elim fun n1 t1=>t2.2.elim fun n2 t2=>richCompare_meets_room (op:=.Lt) ⟨_,t1,rfl⟩ ⟨_,t2,rfl⟩ F.slot_tuple_lt F.entry_tuple_lt (F.args_tuple_lt_2 _ _) (amq _ _ n1 n2 _ _ _ _ _ _ _ _)
   ⟨t1,t2,⟨(fun h=>nomatch h),rfl,rfl⟩⟩ (by omega)
 |_=>exact ba e
theorem Wz{o:CO}(e:bh o x y=some b)(p:RC w s.heap O v x)(q:RC w s.heap O u y)(hu:A.units+20<cLine)(nd:∀l,y=.aq l→o≠.fQ∧o≠.kZ):
  wpAny (ah w) A (compareOp (dK o) v u) (fun z s'=>z=.bool b∧s'=s) E s:=by
 have Nt:∀{y} {u:Value} {C:Value→Prop},pk y=true→RC w s.heap O u y→C .none→C u:=fun {y u C} h q k=>by
  have:=q.isNone
  rw[h]at this
  rw[eq_of_beq this];exact k
 cases o with
 |hM=>refine aX e fun h e=>aC e (Nt (C:=fun u=>wpAny (ah w) A (compareOp .Is v u) _ E s) h q (is_none ⟨by rw[p.isNone],rfl⟩))
 |hN=>refine aX e fun h e=>aC e (Nt (C:=fun u=>wpAny (ah w) A (compareOp .IsNot v u) _ E s) h q (isNot_none ⟨by rw[p.isNone],rfl⟩))
 |eq=>exact IV (P:=fun b v u=>wpAny (ah w) A (compareOp .Eq v u) (fun z s'=>z=.bool b∧s'=s) E s) e p q (fun a b t t'=>eq_bytes ⟨by simp,rfl⟩) fun e=>(Ox e p q (by omega)).1 ey w E _ ⟨rfl,rfl⟩
 |ne=>
  refine aK e fun c e e'=> ?_
  refine aC e' ?_
  exact IV (P:=fun b v u=>wpAny (ah w) A (compareOp .NotEq v u) (fun z s'=>z=.bool (!b)∧s'=s) E s) e p q (fun a b t t'=>ne_bytes ⟨by simp[bne],rfl⟩) fun e=>(Ox e p q (by omega)).2 ey w E _ ⟨rfl,rfl⟩
 |lt=>exact afg e p q hu
 |le=>refine bO e p fun i t e=> ?_;refine bO e q fun j t' e=> ?_;refine aC e ?_;exact PyProof.Rows.le_int ⟨rfl,rfl⟩
 |gt=>refine bO e p fun i t e=> ?_;refine bO e q fun j t' e=> ?_;refine aC e ?_;exact gt_int ⟨rfl,rfl⟩
 |ge=>refine bO e p fun i t e=> ?_;refine bO e q fun j t' e=> ?_;refine aC e ?_;exact PyProof.Rows.ge_int ⟨rfl,rfl⟩
 |fQ=>
  refine jN e (fun _ e=>ba e) fun Cz e=> ?_
  cases y with
  |tup l=>
   cases q with|mk n a r=>
   refine aK e fun is h e=> ?_
   refine bO e p fun i t e=> ?_
   refine aC e ?_
   exact(ints_in h a r).1
  |lst l=>cases q with|mk n a r=>exact(Ms e Cz p a r hu).1
  |aq l=>exact absurd rfl (nd l rfl).1
  |_=>exact ba e
 |kZ=>
  refine jN e (fun _ e=>ba e) fun Cz e=>aK e fun c e e'=> ?_
  refine aC e' ?_
  cases y with
  |tup l=>
   cases q with|mk n a r=>
   refine aK e fun is h e=> ?_
   refine bO e p fun i t e=> ?_
   refine aC e ?_
   exact(ints_in h a r).2
  |lst l=>cases q with|mk n a r=>exact(Ms e Cz p a r hu).2
  |aq l=>exact absurd rfl (nd l rfl).2
  |_=>exact ba e
end
end
section
open PySem.SeqAt
theorem qZ{n:Nat}{i:Int}{j:Nat}{G:Prop}(h:idx n i=some j)(k1:0≤i→i<n→j=i.toNat→G)(k2:i<0→0≤i+n→j=(i+n).toNat→G):G:=
 jN h (fun h0 e=>aX e fun h1 e=>k1 (bK h0) (bK h1) (Option.some.inj e).symm) fun h0 e=>aX e fun h1 e=>k2 (not_le.mp (of_decide_eq_false h0)) (bK h1) (Option.some.inj e).symm
theorem ab6{n:Nat}{i:Int}{j:Nat}(h:idx n i=some j):j<n:=qZ h (fun h0 h1 e=>by rw[e];exact(toNat_lt h0).mpr h1) fun h0 h1 e=>by rw[e];exact(toNat_lt h1).mpr (by have:=Int.add_lt_add_right h0 n;rwa [Int.zero_add]at this)
theorem idx_eq{n:Nat}{i:Int}{j:Nat}(h:idx n i=some j):seqIndex? i n=some j:=qZ h (fun h0 h1 e=>by
  subst e
  unfold seqIndex?
  rw[if_neg (not_lt.mpr h0)]
  show(if(decide (0≤i)&&decide (i< ↑n))=true then some i.toNat else none)=_
  rw[decide_eq_true h0,decide_eq_true h1];rfl) fun h0 h1 e=>by
  subst e
  exact seqIndex_neg h0 (by omega)
section
theorem alY{d k r:AV}{o i:Value}(e:bt d k=some r)(p:RC w s.heap O o d)(q:RC w s.heap O i k)(nd:∀l,d≠.aq l):
  ItemOn (ah w) A E o i (PV w O s r) s:=by
 cases d with
 |bytes b=>
  cases p with|mk t hb=>
  refine bO e q fun i t' e=>aX e fun h e=> ?_
  refine aC e ?_
  exact⟨"bytes",_,FB.slot_bytes_getitem.lookup,typeIs_bytes _ _ _,getItem_bytes (by omega) (bK h).1 (bK h).2 gP⟩
 |lst xs=>
  cases p with|mk _ l x=>
  refine bO e q fun i t' e=>aK e fun j hi e=>(x.at j r e).elim fun v hv=> ?_
  have hz:=l.1
  rw[x.length]at hz
  refine⟨"list",_,list_getitem_lookup,l.isList.typeIs,qZ hi (fun h0 h1 ej=> ?_) fun h0 h1 ej=> ?_⟩
  ·exact wpAny_getItem_list l.isList h0 (by omega) (getElem?_toArray.trans (ej▸hv.1)) ⟨Kp.refl,hv.2⟩
  ·refine wpAny_getItem_list_neg l.isList h0 (by rw[size_toArray,x.length];omega) (by omega) ?_ ⟨Kp.refl,hv.2⟩
   rw[size_toArray,x.length,←ej]
   exact getElem?_toArray.trans hv.1
 |tup xs=>
  cases p with|mk _ l x=>
  refine bO e q fun i t' e=>aK e fun j hi e=>(x.at j r e).elim fun v hv=> ?_
  have hz:=l.1
  rw[x.length]at hz
  exact l.2.elim fun n l=>⟨"tuple",_,F.slot_tuple_getitem.lookup,⟨_,l,rfl⟩,P.getItem_tuple (k:=j) l (qZ hi (fun _ _ _=>by omega) fun _ _ _=>by omega) (qZ hi (fun _ _ _=>by omega) fun _ _ _=>by omega) (by rw[size_toArray,x.length];exact idx_eq hi) (getElem?_toArray.trans hv.1) ⟨Kp.refl,hv.2⟩⟩
 |aq l=>exact absurd rfl (nd l)
 |_=>exact ba e
theorem tail_any(h:ItemOn (ah w) A E o i Q s)
  (hs:subscripted slice false o i=operate ops (getItem o i)):wpAny (ah w) A (subscriptTail value slice o i) Q E s:=by
 obtain⟨T,id,hl,hT,hg⟩:=h
 unfold subscriptTail
 refine wpAny_bind ?_
 rw[getitemInPython_of_ne hT.not_modules]
 refine wpAny_bind (wpAny_specialOf hT hl ?_)
 have fin:wpAny (ah w) A (subscripted slice false o i) (fun r lZ=>wpAny (ah w) A (letTemporaryGo value o r>>=fun _=>pure r) Q E lZ) E s:=by
  rw[hs]
  exact wpAny_operating (wpAny_mono hg (fun r lZ mG=>wpAny_bind (wpAny_letTemporaryGo (wpAny_pure mG))) fun _ _ x=>x)
 first
  |exact wpAny_pure (wpAny_bind fin)
  |exact wpAny_bind (wpAny_pure (wpAny_bind fin))
  |exact wpAny_bind fin
noncomputable def DP(e:Expr):Bool:= !beq e.ctorIdx 26
theorem alZ(h:DP e=true)(o i):subscripted e false o i=operate [o,i] (getItem o i):=by
 cases e<;>first|rfl|cases h
theorem al0{lo hi}(o i):subscripted (.Slice lo hi none p) false o i=operate [i,o] (getItem o i):=rfl
theorem Xh(n)(i):cut n i=clipAt n i:=by
 unfold cut clipAt
 by_cases h:0≤i
 ·rw[if_pos h,if_neg (not_lt.mpr h)]
  obtain⟨k,rfl⟩:=eq_ofNat_of_zero_le h
  exact(Nat.le_total k n).elim (fun q=>by rw[Int.min_eq_left (ofNat_le.mpr q),Int.max_eq_right (natCast_nonneg _)];exact min_eq_left q) fun q=>by rw[Int.min_eq_right (ofNat_le.mpr q),Int.max_eq_right (natCast_nonneg _)];exact Nat.min_eq_right q
 ·have q:i<0:=not_le.mp h
  rw[if_neg h,if_pos q,Int.min_eq_left (show i+n≤n by omega)]
  exact(Int.le_total 0 (i+n)).elim (fun q=>by rw[Int.max_eq_right q]) fun q=>by rw[Int.max_eq_left q,Int.toNat_of_nonpos q];rfl
theorem rH(l:List α)(lo hi:Option Int):part l lo hi=(l.drop (lo.elim 0 (clipAt l.length))).take (hi.elim l.length (clipAt l.length)-lo.elim 0 (clipAt l.length)):=by
 unfold part
 rw[←List.drop_take]
 cases lo<;>cases hi<;>simp[Xh]
theorem D6(l:List α)(lo hi):(part l lo hi).length≤l.length:=by
 unfold part;rw[length_drop,length_take];exact le_trans (sub_le _ _) (min_le_right _ _)
theorem bW.take(x:au w h O vs l):∀n,au w h O (vs.take n) (l.take n)
 |0=>by rw[take_zero,take_zero];exact .nil
 |n+1=>by
  cases l with
  |nil=>cases x;exact .nil
  |cons d l=>cases x with|mk a r=>exact .mk a (r.take n)
theorem bW.drop(x:au w h O vs l):∀n,au w h O (vs.drop n) (l.drop n)
 |0=>x
 |n+1=>by
  cases l with
  |nil=>cases x;exact .nil
  |cons d l=>cases x with|mk a r=>exact r.drop n
theorem bW.part(x:au w h O vs l)(lo hi):au w h O (part vs lo hi) (part l lo hi):=by
 rw[rH,rH,x.length]
 exact(x.drop _).take _
theorem Pb{lo hi}:(KBy.picked b.toArray lo hi)=(part b lo hi).toArray:=by
 rw[KBc.picked_eq,rH];simp
theorem ahI{lo hi}:slicePick vs.toArray lo hi none=(part vs lo hi).toArray:=by
 rw[slicePick_plain,rH];simp
theorem ala{sl:Addr}{a n:Nat}(hs:s.heap.IsSliceOf sl .none (.int a u) .none)(ha:a≤n)(h:Q (0,1,a) s):
  wpAny (ah w) A (Builtin.Slice.sliceApplied (.ref sl) (pure (n:Int))) Q E s:=by
 obtain⟨os,uq,K2,qV⟩:=id hs
 unfold Builtin.Slice.sliceApplied Builtin.Slice.sliceFields
 refine wpAny_bind (wpAny_bind (wpAny_field uq qV (x:=.none) rfl (wpAny_bind (wpAny_field uq qV (x:=.int a u) rfl (wpAny_bind (wpAny_field uq qV (x:=.none) rfl (wpAny_pure ?_)))))))
 refine wpAny_bind (slicePart_none ?_)
 show wpAny _ _ (if((1:Int)==0)=true then _ else _) _ _ s
 rw[if_neg (by decide)]
 refine wpAny_bind (slicePart_none (wpAny_bind (slicePart_int (wpAny_bind (wpAny_pure ?_)))))
 show wpAny _ _ (match Builtin.Slice.sliceAdjust none (some (a:Int)) 1 (n:Int)with|(lo,hi)=>pure (lo,(1:Int),Builtin.Slice.slicePlaces lo hi 1)) _ _ s
 have e1:Builtin.Slice.sliceAdjust none (some (a:Int)) 1 (n:Int)=(0,(a:Int)):=by
  unfold Builtin.Slice.sliceAdjust
  have h1:¬((1:Int)<0):=by omega
  have h2:¬((a:Int)<0):=by omega
  simp only[h1,h2,if_false]
  congr 1
  omega
 rw[e1]
 show wpAny _ _ (pure ((0:Int),(1:Int),Builtin.Slice.slicePlaces (0:Int) (a:Int) 1)) _ _ s
 have e2:Builtin.Slice.slicePlaces (0:Int) (a:Int) 1=a:=by
  unfold Builtin.Slice.slicePlaces
  have h1:(1:Int)>0:=by omega
  simp only[h1,if_true,ediv_one]
  split<;>omega
 rw[e2]
 exact wpAny_pure h
theorem aaS{t sl:Addr}{items:Array Value}{a:Nat}(ht:PyProof.Rows.IsTup s.heap t items)(hs:s.heap.IsSliceOf sl .none (.int a u) .none)(ha:a<items.size)
  (h:Q (.ref s.heap.objs.size) {s with heap:=s.heap.push {cls:=.type "tuple",data:=.seq (items.toList.take a).toArray}})
  (Lr:items.size≤sizeLine):wpAny (ah w) A (getItem (.ref t) (.ref sl)) Q E s:=by
 have xR:sizeOk (.seq (items.toList.take a).toArray):=by
  show(items.toList.take a).toArray.size≤sizeLine
  rw[size_toArray,length_take,length_toList]
  omega
 obtain⟨os,uq,K2,qV⟩:=id hs
 have hTs:s.TypeIs (.ref sl) "slice":=⟨os,uq,K2⟩
 unfold getItem
 try with_reducible refine wpAny_holding ?_
 first|refine wpAny_bind (wpAny_pure ?_)|skip
 refine wpAny_bind (wpAny_sequenceKey ht.typeIs (by decide) ?_)
 refine wpAny_bind (wpAny_callSpecial?_slot (name:=Str.ofString "__getitem__") ht.typeIs slot_tuple_getitem
  (wpAny_call_entry slot_tuple_getitem ht.typeIs entry_tuple_getitem ?_ (args_tuple_getitem _ _)))
 show wpAny _ _ (Builtin.Tuple.tupleItemsOf (.ref t)>>=_) _ _ s
 refine wpAny_bind (tupleItemsOf_ ht ?_)
 refine wpAny_bind (wpAny_typeOf hTs ?_)
 rw[if_pos (by decide)]
 refine wpAny_bind (ala hs (le_of_lt ha) ?_)
 have CV:¬(((0:Int)==0&&(1:Int)==1&&a==items.size)=true):=by
  have:(a==items.size)=false:=by rw[beq_eq_false_iff_ne];omega
  rw[this];simp
 show wpAny _ _ (if((0:Int)==0&&(1:Int)==1&&a==items.size)=true then _ else _) _ _ s
 have e:((List.range a).filterMap fun(k:Nat)=>items[((0:Int)+(k:Int)*1).toNat]?).toArray=(items.toList.take a).toArray:=by
  have e:(fun(k:Nat)=>items[((0:Int)+(k:Int)*1).toNat]?)=fun k=>items[0+k]? :=by
   funext k
   have:((0:Int)+(k:Int)*1).toNat=0+k:=by rw[Int.zero_add,Int.mul_one,zero_add];rfl
   rw[this]
  rw[e]
  have:=pick_run items 0 a
  rw[List.filterMap_map]at this
  have e2:((fun x=>items[x]?)∘fun x=>0+x)=fun k=>items[0+k]? :=rfl
  rw[e2]at this
  rw[this];simp
 rw[if_neg CV,e]
 first
  |exact wpAny_bind (m:=Builtin.Tuple.tupleExact _) (wpAny_newObj_type (wpAny_pure ⟨_,rfl,wpAny_pure h⟩) xR)
  |exact wpAny_bind (m:=Builtin.Tuple.tupleExact _) (wpAny_newObj_type (wpAny_bind (wpAny_pure (wpAny_pure ⟨_,rfl,wpAny_pure h⟩))) xR)
  |exact wpAny_bind (wpAny_bind (m:=Builtin.Tuple.tupleExact _) (wpAny_newObj_type (wpAny_pure (wpAny_pure ⟨_,rfl,wpAny_pure h⟩)) xR))
  |exact wpAny_bind (wpAny_bind (m:=Builtin.Tuple.tupleExact _) (wpAny_newObj_type (wpAny_pure ⟨_,rfl,wpAny_pure h⟩) xR))
theorem ak8{lo hi:Option Int}(e:lY d lo hi=some r)(p:RC w s.heap O o d)(hs:s.heap.IsSliceOf a l u .none)(hl:IsPart l lo)(hu:IsPart u hi)(hO:jQ s.heap O):
  ItemOn (ah w) A E o (.ref a) (PO w O s r) s:=by
 cases d with
 |bytes b=>
  cases p with|mk t hb=>
  refine aC e ?_
  refine⟨"bytes",_,FB.slot_bytes_getitem.lookup,typeIs_bytes _ _ _,getItem_meets (typeIs_bytes _ _ _) (by decide) FB.slot_bytes_getitem FB.entry_bytes_getitem (FB.args_bytes_getitem_2 _ _) (KBc.meets_slice2 _ t _ hl hu) ⟨hs,?_,fun t' k=> ?_⟩⟩
  ·rw[Pb,sizeLine_eq];exact le_trans (D6 _ _ _) hb
  ·rw[Pb];exact⟨Kp.tok,.bytes _ _ (le_trans (D6 _ _ _) hb)⟩
 |lst xs=>
  cases p with|mk _ lb x=>
  refine aC e ?_
  refine⟨"list",_,list_getitem_lookup,lb.isList.typeIs,wpAny_getItem_list_slice lb.isList hs hl hu .none (by simp) ?_ (by rw[sizeLine_eq];exact lb.1)⟩
  rw[ahI]
  exact xD (x.part lo hi) (le_trans (D6 _ _ _) lb.1)
 |tup xs=>
  cases p with|mk _ lb x=>
  refine aK e fun k hh e=>aX e fun h e=>aS h fun h1 h2=> ?_
  refine aC e ?_
  have h2:=bK h2
  have lb':=lb.1
  have xl:=x.length
  cases lo with
  |some=>cases h1
  |none=>
   cases hh
   cases hl;cases hu
   refine(eq_ofNat_of_zero_le h2.1).elim fun k hk=> ?_
   subst hk
   refine⟨"tuple",_,F.slot_tuple_getitem.lookup,lb.jE.typeIs,aaS lb.jE hs (by rw[show Array.size _=_ from xl];omega) ?_ (by rw[sizeLine_eq];exact lb')⟩
   exact Ed hO (x.take _) (by simp;omega)
 |_=>exact ba e
theorem bW.set(x:RV w h O v d):∀{l:List AV} {vs:List Value},au w h O vs l→∀n,au w h O (vs.set n v) (l.set n d):=fun {l}=>by
 induction l with
 |nil=>intro vs r n;cases r;exact .nil
 |cons a l ih=>
  intro vs r n
  cases r with|mk p r=>
  cases n with
  |zero=>exact .mk x r
  |succ n=>exact .mk p (ih r n)
theorem akS{p:Addr×Addr}{l:List AV}{d:AV}{k:Int}{v:Value}{j:Nat}(c:cW w s.heap O p (.lst l))(hp:O p.1)(r:RV w s.heap O v d)(hj:idx l.length k=some j):
  wpAny (ah w) A (setItem (.ref p.1) (.int k t) v) (fun _ s'=>(∃h' tk,s'={s with heap:=h',toks:=tk}∧Heap.SameBut p.1 s.heap h')∧cW w s'.heap O p (.lst (l.set j d))) E s:=by
 refine c.elim fun vs c=> ?_
 have la:=c.1
 have rs:=c.2
 refine la.2.elim fun nn ho=> ?_
 have Lr:=la.1
 have dE:=rs.length
 have hlen:vs.toArray.size=l.length:=dE
 have dB:=ab6 hj
 have hv:vs.toArray[j]? =some (vs.toArray[j]'(by omega)):=Array.getElem?_eq_getElem _
 generalize hQ:(fun(_:Unit) s'=>(∃h' tk,s'={s with heap:=h',toks:=tk}∧Heap.SameBut p.1 s.heap h')∧cW w s'.heap O p (.lst (l.set j d)))=Q
 have K4:∀{E:Value→Shared→Prop},wpAny (ah w) A.in1 (setSeqItemAt p.1 j v) Q E s:=by
  intro E
  rw[←hQ]
  refine wpAny_setSeqItemAt ho rfl ⟨⟨_,_,rfl,Heap.SameBut.update ..⟩,vs.set j v,⟨by simpa using Lr,nn,?_⟩,(rs.set r j).mv ⟨fun b o e q=>(Heap.get?_update_ne _ _ _ _ fun z=>q (z▸hp)).trans e,fun _ _ q=>q⟩⟩
  have:=Heap.get?_update_self (Obj.mapSeq (·.setIfInBounds j v)) ho rfl
  rw[this]
  simp[Obj.mapSeq]
 clear hQ
 unfold setItem
 try with_reducible refine wpAny_holding ?_
 first|refine wpAny_bind (wpAny_pure ?_)|skip
 refine wpAny_bind (wpAny_sequenceKey la.isList.typeIs (by decide) ?_)
 refine wpAny_bind (wpAny_callSpecial?_slot (name:=Str.ofString "__setitem__") la.isList.typeIs slot_list_setitem
  (wpAny_call_entry slot_list_setitem la.isList.typeIs entry_list_setitem ?_ (args_list_setitem _ _ _)))
 show wpAny _ _ (Builtin.List.listSubscript? (.int k t)>>=_) _ _ s
 refine qZ hj (fun h0 h1 ej=> ?_) fun h0 h1 ej=> ?_
 ·refine wpAny_bind (wpAny_listSubscript_int (fitsIndex_of h0 (by omega)) ?_)
  obtain⟨j',rfl⟩:=eq_ofNat_of_zero_le h0
  obtain rfl:j=j':=ej
  show wpAny _ _ ((seqItemAt p.1 j>>=fun r=>pure (r.map (j,·)))>>=_) _ _ s
  refine wpAny_bind (wpAny_bind (wpAny_seqItemAt ho rfl (wpAny_pure ?_)))
  rw[hv]
  show wpAny _ _ (setSeqItemAt p.1 j v>>=_) _ _ s
  refine wpAny_bind (wpAny_mono K4 (fun _ s' z=> ?_) fun _ _ z=>z)
  first
   |exact wpAny_bind (wpAny_pure (wpAny_pure ⟨.none,rfl,wpAny_pure z⟩))
   |exact wpAny_pure ⟨.none,rfl,wpAny_pure z⟩
 ·refine wpAny_bind (wpAny_listSubscript_int (fitsIndex_neg h0 (by omega)) ?_)
  have K7:=seqIndex_neg (n:=vs.toArray.size) h0 (by omega)
  rw[hlen,←ej,←hlen]at K7
  obtain⟨q,rfl⟩:∃q:Nat,k=Int.negSucc q:=by
   cases k with
   |ofNat n=>exact absurd h0 (not_lt.mpr (natCast_nonneg n))
   |negSucc n=>exact⟨n,rfl⟩
  show wpAny _ _ ((Builtin.List.listItems (.ref p.1)>>=fun xs=>pure ((seqIndex? (Int.negSucc q) xs.size).bind fun i=>xs[i]?.map (i,·)))>>=_) _ _ s
  refine wpAny_bind (wpAny_bind ?_)
  show wpAny _ _ (seqItems? (.ref p.1)>>=_) _ _ s
  refine wpAny_bind (wpAny_seqItems ho rfl (wpAny_pure (wpAny_pure ?_)))
  rw[K7]
  simp only[bind_some,hv,Option.map_some]
  show wpAny _ _ (setSeqItemAt p.1 j v>>=_) _ _ s
  refine wpAny_bind (wpAny_mono K4 (fun _ s' z=> ?_) fun _ _ z=>z)
  first
   |exact wpAny_bind (wpAny_pure (wpAny_pure ⟨.none,rfl,wpAny_pure z⟩))
   |exact wpAny_pure ⟨.none,rfl,wpAny_pure z⟩
end
end
section
open PySem.SeqAt
section
theorem ints_of:∀{l} {vs} {is},intsOf l=some is→au w h O vs l→IntsAre vs is:=fun {l}=>by
 induction l with
 |nil=>intro vs is e r;refine aC e ?_;cases r;exact .nil
 |cons d l ih=>
  intro vs is e r
  cases r with|mk p r=>
  refine bO e (.of p) fun i t e=>aK e fun js e1 e=> ?_
  refine aC e ?_
  exact .cons _ _ (ih e1 r)
theorem agT(x:IntsAre vs is):au w h O vs (is.map .int):=by
 induction x with
 |nil=>exact .nil
 |cons n t r ih=>exact .mk (.int n t) ih
theorem agK:∀{l} {b:List UInt8},jK l=some b→∃is,intsOf l=some is∧(∀n∈is,0≤n∧n<256)∧byteArr is=b.toArray:=fun {l}=>by
 induction l with
 |nil=>intro b e;refine aC e ?_;exact⟨[],rfl,(fun _ h=>nomatch h),rfl⟩
 |cons d l ih=>
  intro b e
  refine nG e fun i e=>aX e fun h e=>aK e fun b' e1 e=> ?_
  refine aC e ?_
  exact(ih e1).elim fun is k=>⟨i::is,congrArg (fun z=>aw z fun l=>some (i::l)) k.1,fun n hn=>(mem_cons.mp hn).elim (fun q=>q▸bK h) (k.2.1 n),by
   have:=k.2.2
   unfold byteArr at this ⊢
   rw[map_cons,FP this]⟩
end
end
section
open PySem.SeqAt
structure KD (w:World) (K:Type) [DecidableEq K] where
 knd:KeyKind ey w K
 key:K→AV
 num:Nat
 is:∀{h} {O} {v} {k},RV w h O v (key k)→knd.is k v=true
 hash:∀k,j5 w (key k)=knd.hash k
 uA:∀a b,Mine.jH (key a) (key b)=decide (a=b)
 kinds:∀d,Mine.kind d=num→∃k,d=key k
 Mm:∀k,Mine.kind (key k)=num
theorem str_beq(a b:Str):(a==b)=decide (a=b):=by
 by_cases h:a=b
 ·subst h;simp
 ·simp[h]
def hU(w:World):KD w Int where
 knd:=intKind ey w
 key:=.int
 num:=1
 is:=fun x=>by cases x;exact intKind_is _ _ _ _
 hash:=fun k=>rfl
 uA:=fun a b=>by show(a==b)=_;simp[BEq.beq]
 kinds:=fun d h=>by cases d<;>first|exact⟨_,rfl⟩|exact absurd (show(0:Nat)=1 from h) (by decide)|exact absurd (show(2:Nat)=1 from h) (by decide)|exact absurd (show(3:Nat)=1 from h) (by decide)
 Mm:=fun _=>rfl
def Mj(w:World):KD w Str where
 knd:=strKind ey w
 key:=.str
 num:=2
 is:=fun x=>by cases x;exact strKind_is _ _ _ _
 hash:=fun k=>rfl
 uA:=fun a b=>str_beq a b
 kinds:=fun d h=>by cases d<;>first|exact⟨_,rfl⟩|exact absurd (show(0:Nat)=2 from h) (by decide)|exact absurd (show(1:Nat)=2 from h) (by decide)|exact absurd (show(3:Nat)=2 from h) (by decide)
 Mm:=fun _=>rfl
inductive Fl {α β:Type} (P:α→β→Prop) (R:List α→List β→Prop):List α→List β→Prop
 |mk {a b as bs}:P a b→R as bs→Fl P R (a::as) (b::bs)
inductive KV (w:World) (h:Heap) (O:Addr→Prop) {K:Type} (mk:K→AV) (p:AV×AV):DictEntry→K×Value→Prop
 |mk {k u v}:p.1=mk k→RV w h O u (mk k)→RV w h O v p.2→KV w h O mk p ⟨j5 w (mk k),u,v⟩ (k,v)
noncomputable def RK(w:World)(h:Heap)(O:Addr→Prop){K:Type}(mk:K→AV):List (AV×AV)→List DictEntry→List (K×Value)→Prop
 |[]=>fun es az=>es=[]∧az=[]
 |p::l=>Fl (KV w h O mk p) (RK w h O mk l)
section
variable {K:Type} [DecidableEq K] (D:KD w K) {h:Heap} {O:Addr→Prop}
theorem ajt:∀{l:List (AV×AV)} {es},c8 w h O es l→(l.all fun p=>kind p.1==D.num)=true→∃az,RK w h O D.key l es az:=fun {l}=>by
 induction l with
 |nil=>intro es r _;exact⟨[],r,rfl⟩
 |cons p l ih=>
  intro es r hk
  cases r with|mk e r=>
  cases e with|mk a b=>
  refine aS hk fun h1 h2=>(ih r h2).elim fun az x=>(D.kinds p.1 (eq_of_beq h1)).elim fun k e=> ?_
  rw[e]at a ⊢
  exact⟨_,.mk (.mk e a b) x⟩
theorem RK.res:∀{l} {es} {az},RK w h O mk l es az→c8 w h O es l:=fun {l}=>by
 induction l with
 |nil=>intro es az r;exact r.1
 |cons p l ih=>
  intro es az r
  cases r with|mk e r=>
  cases e with|mk e a b=>
  rw[←e]at a ⊢
  exact .mk (.mk a b) (ih r)
theorem RK.pairs:∀{l} {es} {az},RK w h O D.key l es az→Pairs D.knd es az∧∀e∈es,∃k,D.knd.is k e.key=true∧e.hash=D.knd.hash k:=fun {l}=>by
 induction l with
 |nil=>intro es az r;rw[r.1,r.2];exact⟨.nil,fun _ h=>nomatch h⟩
 |cons p l ih=>
  intro es az r
  cases r with|mk e r=>
  cases e with|mk e a b=>
  exact⟨.cons (D.is a) rfl (ih r).1,fun e he=>(mem_cons.mp he).elim (fun q=>q▸⟨_,D.is a,D.hash _⟩) ((ih r).2 e)⟩
theorem RK.find:∀{l} {es} {az},RK w h O D.key l es az→(∀d,cQ l (D.key k)=some d→∃v,valueAt az k=some v∧RV w h O v d)∧(cQ l (D.key k)=none→valueAt az k=none):=fun {l}=>by
 induction l with
 |nil=>intro es az r;rw[r.2];exact⟨fun _ h=>(nomatch h),fun _=>rfl⟩
 |cons p l ih=>
  intro es az r
  cases r with|mk e r=>
  cases e with|@mk k' u v e a b=>
  have x:=ih r
  unfold valueAt
  rw[IE,e,D.uA,find?_cons]
  by_cases q:k'=k
  ·rw[show decide (k'=k)=true from decide_eq_true q]
   exact⟨fun d h=>⟨v,rfl,Option.some.inj h▸b⟩,fun h=>nomatch h⟩
  ·rw[show decide (k'=k)=false from decide_eq_false q]
   exact x
theorem ajs:∀{l:List (AV×AV)} {es} {az:List (K×Value)},RK w h O D.key l es az→(l.all fun q=> !jH (D.key k) q.1)=true→k∉az.map (·.1):=fun {l}=>by
 induction l with
 |nil=>intro es az r _;rw[r.2];exact fun h=>nomatch h
 |cons p l ih=>
  intro es az r hq hm
  cases r with|mk e r=>
  cases e with|mk e a b=>
  refine aS hq fun h1 h2=>(mem_cons.mp hm).elim (fun q=> ?_) (ih r h2)
  have h1:(!jH (D.key k) p.1)=true:=h1
  rw[e,D.uA,decide_eq_true q]at h1
  cases h1
theorem Ep:∀{l} {es} {az:List (K×Value)},RK w h O D.key l es az→jU l=true→(az.map (·.1)).Nodup:=fun {l}=>by
 induction l with
 |nil=>intro es az r _;rw[r.2];exact nodup_nil
 |cons p l ih=>
  intro es az r hp
  cases r with|mk e r=>
  cases e with|mk e a b=>
  refine aS hp fun h1 h2=>nodup_cons.mpr ⟨ajs D r ?_,ih r h2⟩
  rw[←e];exact h1
theorem RK.len:∀{l:List (AV×AV)} {es:List DictEntry} {az:List (K×Value)},RK w h O mk l es az→es.length=l.length∧az.length=l.length:=fun {l}=>by
 induction l with
 |nil=>intro es az r;rw[r.1,r.2];exact⟨rfl,rfl⟩
 |cons p l ih=>
  intro es az r
  cases r with|mk e r=>exact⟨congrArg Nat.succ (ih r).1,congrArg Nat.succ (ih r).2⟩
theorem RK.mv(m:Mv h h' O O'):∀{l:List (AV×AV)} {es} {az},RK w h O mk l es az→RK w h' O' mk l es az:=fun {l}=>by
 induction l with
 |nil=>exact fun {es az} r=>r
 |cons p l ih=>
  intro es az r
  cases r with|mk e r=>
  cases e with|mk e a b=>exact .mk (.mk e (a.mv m) (b.mv m)) (ih r)
end
section
variable {O:Addr→Prop} {s:Shared} {A:Around} {E:Value→Shared→Prop}
theorem cX.exact(x:cX h a es):∃o n,h.get? a=some o∧o.ExactDict∧o.data=.dict es.toArray n:=let⟨_,n,e⟩:=x;⟨_,n,e,⟨rfl,rfl,rfl⟩,rfl⟩
theorem BC{K:Type}[DecidableEq K](D:KD w K){h:Heap}{a:Addr}(x:cX h a es)(r:c8 w h O es l)(hk:(l.all fun p=>kind p.1==D.num)=true)(hp:jU l=true):
  ∃az,h.DictOf D.knd a az∧RK w h O D.key l es az:=
 (ajt D r hk).elim fun az rk=>x.exact.elim fun o y=>y.elim fun n y=>⟨az,⟨o,_,n,y.1,y.2.1,y.2.2,fun e he=>(rk.pairs D).2 e (by simpa using he),(rk.pairs D).1,Ep D rk hp⟩,rk⟩
theorem xd{l:List (AV×AV)}{x:AV}{G:Prop}(k:c9 l x=true)(g:keyOk x=true→(l.all fun p=>kind p.1==kind x)=true→jU l=true→l.length≤1000→G):G:=
 gW k fun a b c d=>g a (all_eq_true.mpr fun p hp=>aS (all_eq_true.mp b p hp) fun x _=>x) c (le_of_ble_eq_true d)
theorem Ml(k:c9 l (.tup kl)=true):(l.all fun p=>kind p.1==3&&keyOk p.1)=true:=gW k fun _ b _ _=>b
theorem Dx{x:AV}{C:AV→Prop}(k:keyOk x=true)(k1:∀i,C (.int i))(k2:∀i,C (.str i))(k3:∀l is,intsOf l=some is→C (.tup l)):C x:=by
 cases x with
 |int i=>exact k1 i
 |str i=>exact k2 i
 |tup l=>exact aS k fun h _=>(isSome_iff_exists.mp h).elim fun is e=>k3 l is e
 |_=>exact noConfusion k
abbrev tk(w:World):HeapKind ey w (List Int):=tupleKind (intKind ey w)
inductive HV (w:World) (h:Heap) (O:Addr→Prop) (p:AV×AV):List Int×Addr×Value→Prop
 |mk {is a v kl}:p.1=.tup kl→intsOf kl=some is→RV w h O (.ref a) (.tup kl)→RV w h O v p.2→HV w h O p (is,a,v)
noncomputable def RH(w:World)(h:Heap)(O:Addr→Prop):List (AV×AV)→List (List Int×Addr×Value)→Prop
 |[]=>fun xs=>xs=[]
 |p::l=>cY (HV w h O p) (RH w h O l)
theorem acv:∀{l} {vs} {is},intsOf l=some is→au w h O vs l→ItemsAre (intKind ey w) is vs:=fun {l}=>by
 induction l with
 |nil=>intro vs is e r;refine aC e ?_;cases r;exact .nil
 |cons d l ih=>
  intro vs is e r
  cases r with|mk p r=>
  refine bO e (.of p) fun i t e=>aK e fun js e1 e=> ?_
  refine aC e ?_
  exact .cons (intKind_is _ _ _ _) (ih e1 r)
theorem sD(e:intsOf l=some is)(r:RV w h O (.ref a) (.tup l)):(tk w).is h is a:=by
 generalize hv:Value.ref a=v at r
 cases r with|mk n t r=>
 cases hv
 exact t.2.elim fun k t=>⟨_,_,k,t,rfl,rfl,acv e r⟩
theorem KU(e:intsOf kl=some is):j5 w (.tup kl)=tupleKeyHash (intKind ey w) is:=by
 show casesOn (motive:=fun _=>Int) (intsOf kl) 0 _=_
 rw[e]
theorem OD{h:Heap}:∀{l:List (AV×AV)} {es:List DictEntry},c8 w h O es l→(l.all fun p=>kind p.1==3&&keyOk p.1)=true→∃xs,RH w h O l xs∧es=xs.map (entryOfKey (tk w)):=fun {l}=>by
 induction l with
 |nil=>intro es r _;exact⟨[],rfl,r⟩
 |cons p l ih=>
  intro es r hk
  cases r with|@mk e0 qG e r=>
  cases e with|@mk u v a b=>
  refine aS hk fun h1 h2=>aS h1 fun h1 h3=>(ih r h2).elim fun xs x=> ?_
  obtain⟨dk,dv⟩:=p
  revert h1 a
  refine Dx (C:=fun dk=>RV w h O u dk→(kind dk==3)=true→∃xs,RH w h O ((dk,dv)::l) xs∧⟨j5 w dk,u,v⟩::qG=xs.map (entryOfKey (tk w))) h3 (fun i _ q=>noConfusion q) (fun i _ q=>noConfusion q) fun kl is e a _=> ?_
  have a':=a
  revert a'
  cases a with|@mk ka _ n t r2=>
  intro a'
  refine⟨(is,ka,v)::xs,.mk (.mk rfl e a' b) x.1,?_⟩
  rw[map_cons,←x.2,KU e];rfl
theorem RH.res:∀{l:List (AV×AV)} {xs:List (List Int×Addr×Value)},RH w h O l xs→c8 w h O (xs.map (entryOfKey (tk w))) l:=fun {l}=>by
 induction l with
 |nil=>intro xs r;rw[show xs=[]from r];exact rfl
 |cons p l ih=>
  intro xs r
  cases r with|mk e r=>
  cases e with|@mk is a v kl e1 e2 x y=>
  rw[map_cons,show entryOfKey (tk w) (is,a,v)=⟨j5 w p.1,.ref a,v⟩by rw[e1,KU e2];rfl]
  rw[←e1]at x
  exact .mk (.mk x y) (ih r)
theorem RH.keys:∀{l:List (AV×AV)} {xs:List (List Int×Addr×Value)},RH w h O l xs→∀x∈xs,(tk w).is h x.1 x.2.1:=fun {l}=>by
 induction l with
 |nil=>intro xs r;rw[show xs=[]from r];exact fun _ h=>nomatch h
 |cons p l ih=>
  intro xs r
  cases r with|mk e r=>
  cases e with|mk e1 e2 x y=>exact fun z hz=>(mem_cons.mp hz).elim (fun q=>q▸sD e2 x) (ih r z)
theorem Dw(h1:intsOf a=some x)(h2:intsOf b=some y):jH (.tup a) (.tup b)=decide (x=y):=by
 show(intsOf a==intsOf b)=_
 rw[h1,h2]
 by_cases q:x=y
 ·subst q;simp
 ·simp[q]
theorem RH.find(e:intsOf kl=some is):∀{l:List (AV×AV)} {xs:List (List Int×Addr×Value)},RH w h O l xs→(∀d,cQ l (.tup kl)=some d→∃p,atKey xs is=some p∧RV w h O p.2 d)∧(cQ l (.tup kl)=none→atKey xs is=none):=fun {l}=>by
 induction l with
 |nil=>intro xs r;rw[show xs=[]from r];exact⟨fun _ h=>(nomatch h),fun _=>rfl⟩
 |cons p l ih=>
  intro xs r
  cases r with|mk e1 r=>
  cases e1 with|@mk js a v kl' e1 e2 x y=>
  have f:=ih r
  unfold atKey
  rw[IE,e1,Dw e2 e,find?_cons]
  by_cases q:js=is
  ·rw[show decide (js=is)=true from decide_eq_true q]
   exact⟨fun d h=>⟨(a,v),rfl,Option.some.inj h▸y⟩,fun h=>nomatch h⟩
  ·rw[show decide (js=is)=false from decide_eq_false q]
   exact f
theorem ajp(e:intsOf kl=some is):∀{l:List (AV×AV)} {xs:List (List Int×Addr×Value)},RH w h O l xs→(l.all fun q=> !jH (.tup kl) q.1)=true→is∉xs.map (·.1):=fun {l}=>by
 induction l with
 |nil=>intro xs r _;rw[show xs=[]from r];exact fun h=>nomatch h
 |cons p l ih=>
  intro xs r hq hm
  cases r with|mk e1 r=>
  cases e1 with|mk e1 e2 x y=>
  refine aS hq fun h1 h2=>(mem_cons.mp hm).elim (fun q=> ?_) (ih r h2)
  have h1:(!jH (.tup kl) p.1)=true:=h1
  rw[e1,Dw e e2,decide_eq_true q]at h1
  cases h1
theorem Ay:∀{l:List (AV×AV)} {xs:List (List Int×Addr×Value)},RH w h O l xs→jU l=true→(xs.map (·.1)).Nodup:=fun {l}=>by
 induction l with
 |nil=>intro xs r _;rw[show xs=[]from r];exact nodup_nil
 |cons p l ih=>
  intro xs r hp
  cases r with|mk e1 r=>
  cases e1 with|mk e1 e2 x y=>exact aS hp fun h1 h2=>nodup_cons.mpr ⟨ajp e2 r (e1▸h1),ih r h2⟩
theorem RH.len:∀{l:List (AV×AV)} {xs:List (List Int×Addr×Value)},RH w h O l xs→xs.length=l.length:=fun {l}=>by
 induction l with
 |nil=>intro xs r;rw[show xs=[]from r];rfl
 |cons p l ih=>intro xs r;cases r with|mk e1 r=>exact congrArg Nat.succ (ih r)
theorem RH.mv(m:Mv h h' O O'):∀{l:List (AV×AV)} {xs},RH w h O l xs→RH w h' O' l xs:=fun {l}=>by
 induction l with
 |nil=>exact fun {xs} r=>r
 |cons p l ih=>
  intro xs r
  cases r with|mk e1 r=>
  cases e1 with|mk e1 e2 x y=>exact .mk (.mk e1 e2 (x.mv m) (y.mv m)) (ih r)
theorem XO(x:cX h a es)(r:c8 w h O es l)(hk:(l.all fun p=>kind p.1==3&&keyOk p.1)=true)(hp:jU l=true):
  ∃xs,h.DictOfH (tk w) a xs∧RH w h O l xs:=
 (OD r hk).elim fun xs rh=>x.exact.elim fun o y=>y.elim fun n y=>⟨xs,⟨o,_,n,y.1,y.2.1,y.2.2,by simpa using rh.2,rh.1.keys,Ay rh.1 hp⟩,rh.1⟩
theorem xf{h:Heap}{l:List (AV×AV)}{x:AV}{a:Addr}{i:Value}{P:AV→Value→Prop}(k:c9 l x=true)(da:cX h a es)(r:c8 w h O es l)(q:RV w h O i x)
  (k1:∀{K:Type} [DecidableEq K] (D:KD w K) (y:K) (az:List (K×Value)),D.knd=D.knd→RV w h O i (D.key y)→h.DictOf D.knd a az→RK w h O D.key l es az→jU l=true→l.length≤1000→(∀{h:Heap} (k:K) (u:Value),D.knd.is k u=true→(∃u',RV w h O u' (D.key k))→RV w h O u (D.key k))→P (D.key y) i)
  (k2:∀kl is ka xs,intsOf kl=some is→RV w h O (.ref ka) (.tup kl)→h.DictOfH (tk w) a xs→RH w h O l xs→jU l=true→l.length≤1000→P (.tup kl) (.ref ka)):P x i:=by
 refine xd k fun a1 a2 a3 a4=> ?_
 revert a2 q k
 refine Dx (C:=fun x=>c9 l x=true→RV w h O i x→(l.all fun p=>kind p.1==kind x)=true→P x i) a1 (fun j _ q a2=> ?_) (fun j _ q a2=> ?_) fun kl is e k q _=> ?_
 ·exact(BC (hU w) da r a2 a3).elim fun az y=>k1 (hU w) j az rfl q y.1 y.2 a3 a4 fun k u e _=>(Value.isInt_shape (show Value.isInt k u=true from e)).elim fun t e=>e▸.int k t
 ·exact(BC (Mj w) da r a2 a3).elim fun az y=>k1 (Mj w) j az rfl q y.1 y.2 a3 a4 fun k u e x=>(Value.isStrOf_shape (show Value.isStrOf k u=true from e)).elim fun t e=>x.elim fun u' x=>by
   cases x with|mk t' n=>exact e▸.str k t n
 ·have q':=q
  revert q'
  cases q with|mk n t r2=>exact fun q'=>(XO da r (Ml k) a3).elim fun xs y=>k2 kl is _ xs e q' y.1 y.2 a3 a4
theorem Ls{l:List (AV×AV)}{x:AV}{v u:Value}(k:c9 l x=true)(p:RV w s.heap O v x)(q:RC w s.heap O u (.aq l))(hu:A.units+20<cLine):
  wpAny (ah w) A (compareOp .In v u) (fun z s'=>z=.bool (cQ l x).isSome∧Kp s s') E s:=by
 cases q with|mk _ da r=>
 refine xf (P:=fun x v=>wpAny (ah w) A (compareOp .In v _) (fun z s'=>z=.bool (cQ l x).isSome∧Kp s s') E s) k da r p (fun D y az _ p d1 rk _ _ _=> ?_) fun kl is ka xs e p d1 rh _ _=> ?_
 ·refine wpAny_in_of (D.is p) da.1.2 d1.mapOf ⟨?_,Kp.tok⟩
  cases hd:cQ l (D.key y)with
  |none=>rw[(rk.find D).2 hd];rfl
  |some d=>exact((rk.find D).1 d hd).elim fun v z=>by rw[z.1];rfl
 ·refine wpAny_in_heap (knd:=tk w) (by show A.units+1<cLine;omega) (sD e p) da.1.2 d1 ⟨?_,Kp.tok⟩
  cases hd:cQ l (.tup kl)with
  |none=>rw[(rh.find e).2 hd];rfl
  |some d=>exact((rh.find e).1 d hd).elim fun v z=>by rw[z.1];rfl
theorem agw(k:c9 l x=true)(p:RV w s.heap O v x)(q:RC w s.heap O u (.aq l))(hu:A.units+20<cLine):
  wpAny (ah w) A (compareOp .NotIn v u) (fun z s'=>z=.bool (!(cQ l x).isSome)∧Kp s s') E s:=by
 have h:=Ls (A:=A) (E:=E) k p q hu
 have h2:wpAny (ah w) A (contains u v) (fun b s'=>Value.bool b=.bool (cQ l x).isSome∧Kp s s') E s:=fun Γ p hΓ=>by
  have:=h Γ p hΓ
  rw[show compareOp .In v u=(contains u v>>=fun b=>pure (.bool b))from rfl,Sem.wp_bind']at this
  exact this
 show wpAny _ _ (contains u v>>=fun b=>pure (Value.bool (!b))) _ E s
 refine wpAny_bind (wpAny_mono h2 (fun b s' z=> ?_) fun _ _ z=>z)
 obtain⟨z1,z2⟩:=z
 injection z1 with z1
 subst z1
 exact wpAny_pure ⟨rfl,z2⟩
theorem cX.typeIs(x:cX s.heap a es):s.TypeIs (.ref a) "dict":=x.2.elim fun _ e=>⟨_,e,rfl⟩
theorem alX{l:List (AV×AV)}{x r:AV}{o i:Value}(k:c9 l x=true)(e:cQ l x=some r)(p:RC w s.heap O o (.aq l))(q:RV w s.heap O i x)(hu:A.units+20<cLine):
  ItemOn (ah w) A E o i (PV w O s r) s:=by
 cases p with|mk _ da rr=>
 refine⟨"dict",_,slot_dict_getitem.lookup,da.typeIs,?_⟩
 revert e
 refine xf (P:=fun x i=>cQ l x=some r→wpAny (ah w) A (getItem _ i) (PV w O s r) E s) k da rr q (fun D y az _ q d1 rk _ _ _ e=>((rk.find D).1 _ e).elim fun v z=> ?_) fun kl is ka xs e' q d1 rh _ _ e=>((rh.find e').1 _ e).elim fun v z=> ?_
 ·exact wpAny_getItem_of (D.is q) d1.mapOf z.1 ⟨Kp.tok,z.2⟩
 ·exact wpAny_getItem_heap (knd:=tk w) (by show A.units+1<cLine;omega) (sD e' q) d1 z.1 ⟨Kp.tok,z.2⟩
theorem aaV{l:List (AV×AV)}{x d:AV}{o i z:Value}(k:c9 l x=true)(p:RC w s.heap O o (.aq l))(q:RV w s.heap O i x)(q':RV w s.heap O z d)(hu:A.units+20<cLine):
  wpAny (ah w) A (call (.builtin "dict.get") [o,i,z]) (PV w O s ((cQ l x).getD d)) E s:=by
 cases p with|mk _ da r=>
 refine xf (P:=fun x i=>wpAny (ah w) A (call (.builtin "dict.get") [_,i,z]) (PV w O s ((cQ l x).getD d)) E s) k da r q (fun D y az _ q d1 rk _ _ _=> ?_) fun kl is ka xs e' q d1 rh _ _=> ?_
 ·refine call_meetsIn F.slot_dict_get da.typeIs F.entry_dict_get (F.args_dict_get_3 _ _ _) (meets_dict_get_default D.knd _ (D.is q) da.1.2 z) ⟨_,d1.mapOf,Kp.tok,?_⟩
  cases hd:cQ l (D.key y)with
  |none=>rw[(rk.find D).2 hd];exact q'
  |some d=>exact((rk.find D).1 d hd).elim fun v z=>by rw[z.1];exact z.2
 ·refine call_meetsIn F.slot_dict_get da.typeIs F.entry_dict_get (F.args_dict_get_3 _ _ _) (meetsH_dict_get_default (tk w) _ _ da.1.2 z) ⟨by show A.units+1<cLine;omega,is,xs,sD e' q,d1,Kp.tok,?_⟩
  cases hd:cQ l (.tup kl)with
  |none=>rw[(rh.find e').2 hd];exact q'
  |some d=>exact((rh.find e').1 d hd).elim fun v z=>by rw[z.1];exact z.2
theorem aju{K}[DecidableEq K](D:KD w K){h:Heap}{k:K}(hu:RV w h O u (D.key k))(hv:RV w h O v dv):∀{l} {es} {az:List (K×Value)},RK w h O D.key l es az→(az.map (·.1)).Nodup→
  (k∈az.map (·.1)→∃cA,RK w h O D.key (dh l (D.key k) dv) cA (az.map fun kv=>if kv.1=k then(kv.1,v)else kv))∧(k∉az.map (·.1)→RK w h O D.key (dh l (D.key k) dv) (es++[⟨j5 w (D.key k),u,v⟩]) (az++[(k,v)])):=fun {l}=>by
 induction l with
 |nil=>intro es az r _;rw[r.1,r.2];exact⟨fun h=>(nomatch h),fun _=>.mk (.mk rfl hu hv) ⟨rfl,rfl⟩⟩
 |cons p l ih=>
  intro es az r hn
  cases r with|@mk _ _ as bs e r=>
  cases e with|@mk k' u' v' e a b=>
  rw[map_cons,nodup_cons]at hn
  have x:=ih r hn.2
  rw[BE,e,D.uA]
  by_cases q:k'=k
  ·subst q
   rw[show decide (_=_)=true from decide_eq_true rfl,Pn]
   refine⟨fun _=>⟨⟨j5 w (D.key k'),u',v⟩::as,?_⟩,fun hm=>absurd (mem_cons_self ..) hm⟩
   rw[map_cons,map_store_of_not_mem _ _ _ hn.1,if_pos rfl]
   exact .mk (.mk rfl a hv) r
  ·rw[decide_eq_false q,Pm]
   refine⟨fun hm=>(mem_cons.mp hm).elim (fun hm=>absurd hm.symm q) fun hm=>(x.1 hm).elim fun cA z=>⟨⟨j5 w (D.key k'),u',v'⟩::cA,?_⟩,fun hm=>.mk (.mk e a b) (x.2 fun h=>hm (mem_cons_of_mem _ h))⟩
   rw[map_cons,if_neg q]
   exact .mk (.mk e a b) z
theorem OG{K}[DecidableEq K](D:KD w K){h:Heap}{k:K}{u v:Value}(hu:RV w h O u (D.key k))(hv:RV w h O v dv){az:List (K×Value)}(r:RK w h O D.key l es az)(hn:(az.map (·.1)).Nodup):
  ∃cA,RK w h O D.key (dh l (D.key k) dv) cA (stored az k v):=by
 have x:=aju D hu hv r hn
 unfold stored
 by_cases q:k∈az.map (·.1)
 ·rw[if_pos (by obtain⟨kv,h1,h2⟩:=mem_map.mp q;rw[List.any_eq_true];exact⟨kv,h1,by simpa using h2⟩)]
  exact x.1 q
 ·rw[if_neg (by rw[List.any_eq_true];rintro ⟨kv,h1,h2⟩;exact q (mem_map.mpr ⟨kv,h1,by simpa using h2⟩))]
  exact⟨_,x.2 q⟩
theorem ajr{K}[DecidableEq K](D:KD w K)(hr:∀k u,D.knd.is k u=true→(∃u',RV w h O u' (D.key k))→RV w h O u (D.key k)):∀{l} {cA} {az} {es},RK w h O D.key l cA az→Pairs D.knd es az→(∀e∈es,∃k,D.knd.is k e.key=true∧e.hash=D.knd.hash k)→c8 w h O es l:=fun {l}=>by
 induction l with
 |nil=>intro cA az es r p _;rw[r.2]at p;cases p;exact rfl
 |cons p l ih=>
  intro cA az es r ps hk
  cases r with|mk e r=>
  cases e with|@mk k u v e a b=>
  cases ps with|@cons e' _ _ _ p1 p2 p3=>
  refine(hk _ (mem_cons_self ..)).elim fun k2 q=> ?_
  have:=D.knd.inj _ _ _ p1 q.1
  subst this
  have z:=ih r p3 fun e he=>hk e (mem_cons_of_mem _ he)
  cases e' with|mk hh ky vl=>
  dsimp only at p1 p2 q
  subst p2
  rw[q.2,←D.hash,←e]
  exact .mk (.mk (e▸hr _ _ p1 ⟨_,a⟩) b) z
theorem BB(e:h.get? a=some o)(x:o.ExactDict)(d:o.data=.dict es n)(hl:es.size≤16777216)(hm:(a==sysModules)=false):cX h a es.toList:=by
 obtain⟨c,dd,dt,sl⟩:=o
 obtain⟨x1,x2,x3⟩:=x
 dsimp only at x1 x2 x3 d
 subst x1 x2 x3 d
 exact⟨⟨by simpa using hl,hm⟩,n,by simpa using e⟩
theorem Kx{K:Type}[DecidableEq K](D:KD w K){h:Heap}(hr:∀k u,D.knd.is k u=true→(∃u',RV w h O u' (D.key k))→RV w h O u (D.key k)){a:Addr}{az:List (K×Value)}
  (x:h.DictOf D.knd a az) (r:RK w h O D.key l cA az) (hl:l.length≤16777216) (hm:(a==sysModules)=false):∃es,cX h a es∧c8 w h O es l:=by
 obtain⟨o,es,n,e,ex,d,ks,ps,nd⟩:=x
 have hn:=ps.length
 refine⟨es.toList,BB e ex d (by rw[←length_toList,hn,r.len.2];exact hl) hm,ajr D hr r ps fun e he=>ks e (by simpa using he)⟩
theorem BF(l:List (AV×AV))(k v):(dh l k v).length≤l.length+1:=by
 induction l with
 |nil=>exact le_refl _
 |cons p r ih=>
  rw[BE]
  cases jH p.1 k with
  |true=>exact le_succ _
  |false=>exact succ_le_succ ih
theorem OE(e:intsOf kl=some is)(hu:RV w h O (.ref a) (.tup kl))(hv:RV w h O v dv):∀{l:List (AV×AV)} {xs:List (List Int×Addr×Value)},RH w h O l xs→(xs.map (·.1)).Nodup→
  (is∈xs.map (·.1)→RH w h O (dh l (.tup kl) dv) (xs.map (putAt is v)))∧(is∉xs.map (·.1)→RH w h O (dh l (.tup kl) dv) (xs++[(is,a,v)])):=fun {l}=>by
 induction l with
 |nil=>intro xs r _;rw[show xs=[]from r];exact⟨fun h=>(nomatch h),fun _=>.mk (.mk rfl e hu hv) rfl⟩
 |cons p l ih=>
  intro xs r hn
  cases r with|mk e1 r=>
  cases e1 with|@mk js b u kl' e1 e2 x y=>
  rw[map_cons,nodup_cons]at hn
  have q:=ih r hn.2
  rw[BE,e1,Dw e2 e]
  by_cases z:js=is
  ·subst z
   rw[show decide (_=_)=true from decide_eq_true rfl,Pn]
   refine⟨fun _=> ?_,fun hm=>absurd (mem_cons_self ..) hm⟩
   rw[map_cons,map_putAt_of_not_mem _ _ _ hn.1,show putAt js v (js,b,u)=(js,b,v)from if_pos rfl]
   exact .mk (.mk rfl e2 x hv) r
  ·rw[decide_eq_false z,Pm]
   refine⟨fun hm=>(mem_cons.mp hm).elim (fun hm=>absurd hm.symm z) fun hm=> ?_,fun hm=>.mk (.mk e1 e2 x y) (q.2 fun h=>hm (mem_cons_of_mem _ h))⟩
   rw[map_cons,show putAt is v (js,b,u)=(js,b,u)from if_neg z]
   exact .mk (.mk e1 e2 x y) (q.1 hm)
theorem wz{xs:List (List Int×Addr×Value)}:(atKey xs is).isSome=true↔is∈xs.map (·.1):=by
 unfold atKey
 rw[Option.isSome_map,List.find?_isSome]
 constructor
 ·rintro ⟨x,h1,h2⟩;exact mem_map.mpr ⟨x,h1,by simpa using h2⟩
 ·intro h;obtain⟨x,h1,h2⟩:=mem_map.mp h;exact⟨x,h1,by simpa using h2⟩
theorem akR{p:Addr×Addr}{l:List (AV×AV)}{x y:AV}{i v:Value}(k:c9 l x=true)(c:cW w s.heap O p (.aq l))(hp:O p.1)(q:RV w s.heap O i x)(r:RV w s.heap O v y)(hu:A.units+20<cLine):
  wpAny (ah w) A (setItem (.ref p.1) i v) (fun _ s'=>(∃h' tk,s'={s with heap:=h',toks:=tk}∧Heap.SameBut p.1 s.heap h')∧cW w s'.heap O p (.aq (dh l x y))) E s:=by
 refine c.elim fun es c=> ?_
 have mv:∀{h':Heap},Heap.SameBut p.1 s.heap h'→Mv s.heap h' O O:=fun hs=>⟨fun b o e n=>(hs.2 b (fun z=>n (z▸hp))).trans e,fun _ _ n=>n⟩
 have hlen:=BF l x y
 have hm:=c.1.1.2
 revert hlen
 refine xf (P:=fun x i=>(dh l x y).length≤l.length+1→wpAny (ah w) A (setItem (.ref p.1) i v) (fun _ s'=>(∃h' tk,s'={s with heap:=h',toks:=tk}∧Heap.SameBut p.1 s.heap h')∧cW w s'.heap O p (.aq (dh l x y))) E s) k c.1 c.2 q
  (fun D z az _ q d1 rk k3 k4 hr hlen=> ?_) fun kl is ka xs e' q d1 rh k3 k4 hlen=> ?_
 ·refine wpAny_setItem_pairs (D.is q) d1 (fun h' hd hs=> ?_) (by rw[rk.len.2,sizeLine_eq];omega)
  exact(OG D q r rk (Ep D rk k3)).elim fun cA rk'=>(Kx D hr hd (rk'.mv (mv hs)) (by omega) hm).elim fun nA h=>⟨⟨h',_,rfl,hs⟩,nA,h⟩
 ·refine wpAny_setItem_heap (knd:=tk w) (by show A.units+1<cLine;omega) (sD e' q) d1 (fun h' hd hs=> ?_) (by rw[rh.len,sizeLine_eq];omega)
  have a1:=OE e' q r rh (Ay rh k3)
  have vB:RH w s.heap O (dh l (.tup kl) y) (storedH xs is ka v):=by
   unfold storedH
   by_cases z:is∈xs.map (·.1)
   ·rw[if_pos (wz.mpr z)];exact a1.1 z
   ·rw[if_neg (fun y=>z (wz.mp y))];exact a1.2 z
  refine⟨⟨h',_,rfl,hs⟩,?_⟩
  obtain⟨o,nA,n2,e2,ex,d2,le,ki,nd⟩:=hd
  refine⟨nA.toList,BB e2 ex d2 ?_ hm,?_⟩
  ·rw[←length_toList,le,length_map,vB.len];omega
  ·rw[le];exact(vB.mv (mv hs)).res
theorem IF{l:List (AV×AV)}{x:AV}(k:c9 l x=true):lD x=false:=xd k fun a _ _ _=>Dx (C:=fun x=>lD x=false) a (fun _=>rfl) (fun _=>rfl) fun _ _ _=>rfl
theorem Bv(e:bh o x y=some b)(p:RC w s.heap O v x)(q:RC w s.heap O u y)(hu:A.units+20<cLine):
  wpAny (ah w) A (compareOp (dK o) v u) (fun z s'=>z=.bool b∧Kp s s') E s:=by
 by_cases hd:∃l,y=.aq l∧(o=.fQ∨o=.kZ)
 ·obtain⟨l,rfl,ho⟩:=hd
  rcases ho with rfl|rfl
  ·refine jN e (fun _ e=>ba e) fun ce e=>aX e fun hk e=> ?_
   refine aC e ?_
   exact Ls hk (p.rv ce) q hu
  ·refine jN e (fun _ e=>ba e) fun ce e=>aK e fun c e e'=> ?_
   refine aC e' ?_
   refine aX e fun hk e=> ?_
   refine aC e ?_
   exact agw hk (p.rv ce) q hu
 ·exact wpAny_mono (Wz e p q hu fun l hy=>⟨fun ho=>hd ⟨l,hy,.inl ho⟩,fun ho=>hd ⟨l,hy,.inr ho⟩⟩) (fun z s' h=>⟨h.1,h.2▸Kp.refl⟩) fun _ _ h=>h
theorem alV(e:bt d k=some r)(p:RC w s.heap O o d)(q:RC w s.heap O i k)(hu:A.units+20<cLine):
  ItemOn (ah w) A E o i (PV w O s r) s:=by
 by_cases hd:∃l,d=.aq l
 ·obtain⟨l,rfl⟩:=hd
  exact aX e fun hk e=>alX hk e p (q.rv (IF hk)) hu
 ·exact alY e p q fun l h=>hd ⟨l,h⟩
end
end
section
open PySem.SeqAt
section
variable {O:Addr→Prop} {s:Shared} {A:Around} {E:Value→Shared→Prop}
noncomputable def ahb:List String:=["enumerate","zip","dict_itemiterator","dict_reverseitemiterator","odict_iterator","itertools.zip_longest","itertools.pairwise"]
def qa(h:Heap)(I:Addr):Prop:=∃o T,h.get? I=some o∧o.cls=.type T∧ahb.contains T=false
theorem Mp{t:Expr}{I:Addr}{v:Value}{Q}(p:qa s.heap I)(h:Q () s):wpAny (ah w) A (letOwnedTupleGo t (.ref I) v) Q E s:=by
 obtain⟨o,T,e,c,n⟩:=p
 have go:wpAny (ah w) A (do
   let(.ref r,.ref a):=((.ref I:Value),v)|return
   let o ←load r
   match o.cls,o.data with
   |.type n,.fields vs=>
    if ["enumerate","zip","dict_itemiterator","dict_reverseitemiterator","odict_iterator","itertools.zip_longest","itertools.pairwise"].contains n&&vs[0]? ==some (rawInt a)then
     rule "for.unpacks-the-owned-tuple"
     updateField r 0 .none
   |_,_=>pure ()) Q E s:=by
  cases v<;>try exact wpAny_pure h
  refine wpAny_bind (wpAny_load e ?_)
  rw[c]
  cases o.data<;>try exact wpAny_pure h
  have n':(["enumerate","zip","dict_itemiterator","dict_reverseitemiterator","odict_iterator","itertools.zip_longest","itertools.pairwise"].contains T)=false:=n
  simp only[n',Bool.false_and,false_eq_true,if_false]
  exact wpAny_pure h
 cases t<;>first|exact wpAny_pure h|exact go
def Fp(w:World)(A:Around)(O:Addr→Prop)(l:List AV)(s s2:Shared)(I:Addr):Prop:=
 ∃fp P St,Walks ey w A I fp [I] l.length P St∧St 0 s2.heap∧Kp s s2∧(s.heap.get? I=none∧(s2.heap.get? I).isSome=true)∧(∀b∈fp,(s2.heap.get? b).isSome=true∧¬O b)∧
  (∀i x,i<l.length→P i x→∃d,l[i]? =some d∧RV w s2.heap (fun b=>O b∨b=I) x d)∧∀i h,St i h→qa h I
theorem af9{o}{t}:Mv s.heap ({s with heap:=s.heap.push o,toks:=t}:Shared).heap O (fun b=>O b∨b=s.heap.objs.size):=
 ⟨fun b o' e _=>Heap.get?_push_of_some _ e,fun b e n q=>by
  rcases q with q|q
  ·exact n q
  ·rw[q,dU]at e;cases e⟩
theorem q5{I:Addr}{o:Obj}{l:List AV}{fp:List Addr}{P:Nat→Value→Prop}{St:Nat→Heap→Prop}{n:Nat}(hf:o.isFreed=false)(hO:jQ s.heap O)(hn:n=l.length)(W:Walks ey w A s.heap.objs.size fp [s.heap.objs.size] n P St)(h0:St 0 (s.heap.push o))
  (jB:∀b∈fp,b=s.heap.objs.size∨((s.heap.get? b).isSome=true∧¬O b)) (hP:∀i x,i<l.length→P i x→∃d,l[i]? =some d∧RV w s.heap O x d) (hI:I=s.heap.objs.size) (hp:∀i h,St i h→qa h s.heap.objs.size):Fp w A O l s {s with heap:=s.heap.push o} I:=by
 subst hI hn
 have uk:((s.heap.push o).get? s.heap.objs.size).isSome=true:=isSome_of_eq_some (Heap.get?_push_size _ hf)
 exact⟨fp,P,St,W,h0,Kp.og,⟨dU,uk⟩,fun b hb=>(jB b hb).elim (fun q=>q▸⟨uk,hO.new⟩) fun q=>(isSome_iff_exists.mp q.1).elim fun o' e=>⟨isSome_of_eq_some (Heap.get?_push_of_some _ e),q.2⟩,fun i x hi hx=>(hP i x hi hx).elim fun d q=>⟨d,q.1,q.2.mv af9⟩,hp⟩
theorem bW.get{h:Heap}:∀{ds:List AV} {vs:List Value},au w h O vs ds→∀(i:Nat) (v:Value),vs[i]? =some v→∃d,ds[i]? =some d∧RV w h O v d:=fun {ds}=>by
 induction ds with
 |nil=>intro vs r i v e;rw[show vs=[]from r]at e;cases e
 |cons d ds ih=>
  intro vs r i v e
  cases r with|mk a r=>
  cases i with
  |zero=>exact⟨d,rfl,Option.some.inj e▸a⟩
  |succ i=>exact ih r i v e
theorem RK.key{K:Type}{mk:K→AV}{h:Heap}:∀{l:List (AV×AV)} {es:List DictEntry} {az},RK w h O mk l es az→∀(i:Nat) (k:K) (u:Value),az[i]? =some (k,u)→∃p,l[i]? =some p∧p.1=mk k:=fun {l}=>by
 induction l with
 |nil=>intro es az r i k u e;rw[r.2]at e;cases e
 |cons p l ih=>
  intro es az r i k u e1
  cases r with|mk e r=>
  cases e with|mk e a b=>
  cases i with
  |zero=>exact⟨p,rfl,by rw[e,(Prod.mk.inj (Option.some.inj e1)).1]⟩
  |succ i=>exact ih r i k u e1
theorem OL{a b c:Int}(hc:0<c):Builtin.Range.rangeSize a b c=(((b-a+c-1).fdiv c).toNat:Int):=by
 unfold Builtin.Range.rangeSize
 rw[Int.fdiv_eq_ediv_of_nonneg _ (by omega)]
 have e:b-a+c-1=(b-a-1)+c*1:=by omega
 rw[e,Int.add_mul_ediv_left _ _ (by omega)]
 simp only[gt_iff_lt,hc,if_true]
 split
 ·have:0≤(b-a-1)/c:=Int.ediv_nonneg (by omega) (by omega)
  omega
 ·have:(b-a-1)/c<0:=Int.ediv_neg_of_neg_of_pos (by omega) hc
  omega
theorem ale{a b c:Int}(hc:0<c)(ha:eJ a=true)(hb:eJ b=true)(K0:eJ c=true):Builtin.Range.small a b c=true:=by
 have ha:=EA ha
 have hb:=EA hb
 have K0:=EA K0
 unfold Builtin.Range.small
 have h1:Builtin.Range.rangeSize a b c≤2199023255552∧0≤Builtin.Range.rangeSize a b c:=by
  rw[OL hc]
  refine⟨?_,by omega⟩
  rw[Int.fdiv_eq_ediv_of_nonneg _ (by omega)]
  have:=Int.ediv_le_self (a:=b-a+c-1) c
  by_cases h:0≤b-a+c-1
  ·have:=Int.ediv_le_self c h
   have e:b-a+c-1=(b-a-1)+c*1:=by omega
   have e2:(b-a+c-1)/c=(b-a-1)/c+1:=by rw[e,Int.add_mul_ediv_left _ _ (by omega)]
   by_cases h3:0≤b-a-1
   ·have:=Int.ediv_le_self c h3
    omega
   ·have:(b-a-1)/c<0:=Int.ediv_neg_of_neg_of_pos (by omega) hc
    omega
  ·have:(b-a+c-1)/c<0:=Int.ediv_neg_of_neg_of_pos (by omega) hc
   omega
 have f:∀x:Int,-(2^62)≤x→x≤2^62→Builtin.Range.rangeFitsLong x=true:=by
  intro x h1 h2
  unfold Builtin.Range.rangeFitsLong
  simp
  omega
 simp only[and_eq_true,Bool.or_eq_true]
 refine⟨⟨⟨⟨f _ ?_ ?_,f _ ?_ ?_⟩,f _ ?_ ?_⟩,f _ ?_ ?_⟩,.inr ?_⟩
 any_goals omega
 simp only[gt_iff_lt,hc,if_true]
 exact f _ (by omega) (by omega)
theorem Cj{a:Addr}{h:Heap}(n:¬O a)(x:(s.heap.get? a).isSome=true):∀b∈[s.heap.objs.size,a],b=s.heap.objs.size∨((s.heap.get? b).isSome=true∧¬O b):=fun b hb=>
 (mem_cons.mp hb).elim .inl fun q=>.inr (mem_singleton.mp q▸⟨x,n⟩)
theorem ne_size{a:Addr}(x:(s.heap.get? a).isSome=true):a≠s.heap.objs.size:=fun q=>by rw[q,dU]at x;cases x
def Qv(w:World)(O:Addr→Prop)(s:Shared)(l:List AV)(it:Value)(s2:Shared):Prop:=∃I,it=.ref I∧∀A':Around,A'.handled=none→Fp w A' O l s s2 I
theorem LH{d:AV}{l:List AV}{v:Value}(e:gJ d=some l)(r:RV w s.heap O v d)(hO:jQ s.heap O):
  wpAny (ah w) A (pyIter v) (Qv w O s l) E s:=by
 cases d with
 |lst xs=>
  cases r with|@mk a vs n x r=>
  refine aC e ?_
  exact wpAny_pyIter_list x.isList ⟨_,rfl,fun A' hA=>q5 (P:=fun i v=>vs.toArray[i]? =some v) (fp:=[s.heap.objs.size,a]) (St:=fun i h=>h.IsListIter s.heap.objs.size a i∧h.IsList a vs.toArray) rfl hO r.length (Walks.list hA s.heap.objs.size a (ne_size x.ok) vs.toArray) ⟨⟨_,Heap.get?_push_size _ rfl,rfl,rfl⟩,x.isList.push _⟩ (Cj (h:=s.heap) n x.ok)
   (fun i y hi hy=>r.get i y (getElem?_toArray.symm.trans hy)) rfl fun i h st=>st.1.elim fun o q=>⟨o,_,q.1,q.2.1,by decide⟩⟩
 |tup xs=>
  cases r with|@mk a vs n x r=>
  refine aC e ?_
  exact wpAny_pyIter_tuple x.jE ⟨_,rfl,fun A' hA=>q5 (P:=fun i v=>vs.toArray[i]? =some v) (fp:=[s.heap.objs.size,a]) (St:=fun i h=>h.IsTupleIter s.heap.objs.size a i∧h.IsTuple a vs.toArray) rfl hO r.length (Walks.tuple hA s.heap.objs.size a (ne_size x.ok) vs.toArray) ⟨⟨_,Heap.get?_push_size _ rfl,rfl,rfl⟩,x.jE.push _⟩ (Cj (h:=s.heap) n x.ok)
   (fun i y hi hy=>r.get i y (getElem?_toArray.symm.trans hy)) rfl fun i h st=>st.1.elim fun o q=>⟨o,_,q.1,q.2.1,by decide⟩⟩
 |bytes b=>
  cases r with|mk t hb=>
  refine aC e ?_
  refine KBw.pyIter_bytes ⟨_,rfl,fun A' hA=>q5 (fp:=[s.heap.objs.size]) (St:=fun i h=>KBw.IsBytesIter h s.heap.objs.size b.toArray t i) rfl hO (by simp) (KBw.walks hA s.heap.objs.size b.toArray t) ⟨_,Heap.get?_push_size _ rfl,rfl,rfl⟩ (fun b hb=>.inl (mem_singleton.mp hb)) ?_ rfl fun i h st=>st.elim fun o q=>⟨o,_,q.1,q.2.1,by decide⟩⟩
  rintro i y hi ⟨c,u,h1,rfl⟩
  refine⟨.int c.toNat,?_,.int _ _⟩
  rw[getElem?_map,show b[i]? =some c by simpa using h1];rfl
 |str x=>
  cases r with|mk t hl=>
  refine aX e fun hx e=> ?_
  refine aC e ?_
  refine wpAny_pyIter_ascii hx ⟨_,rfl,fun A' hA=>q5 (fp:=[s.heap.objs.size]) (St:=fun i h=>h.IsStrIter s.heap.objs.size "str_ascii_iterator" x t i) rfl hO (by simp) (Walks.strAscii hA s.heap.objs.size x t) ⟨_,Heap.get?_push_size _ rfl,rfl,rfl⟩ (fun b hb=>.inl (mem_singleton.mp hb)) ?_ rfl fun i h st=>st.elim fun o q=>⟨o,_,q.1,q.2.1,by decide⟩⟩
  rintro i y hi ⟨c,u,h1,rfl⟩
  refine⟨.str ⟨#[c]⟩,?_,.str _ _ (by show 1≤_;omega)⟩
  rw[getElem?_map,Array.getElem?_toList,h1];rfl
 |fV a b c=>
  cases r with|@mk r t u v n x=>
  refine aX e fun h e=>gW h fun h1 h2 h3 h4=> ?_
  refine aC e ?_
  have h1:=bK h1
  refine wpAny_pyIter_range x (ale h1 h2 h3 h4) ⟨_,rfl,fun A' hA=>q5 rfl hO rfl (Walks.range hA s.heap.objs.size a c _) ?_ (fun b hb=>.inl (mem_singleton.mp hb)) ?_ rfl fun i h st=>⟨_,_,st,rfl,by decide⟩⟩
  ·have e1:(a+((0:Nat):Int)*c)=a:=by simp
   rw[e1]
   show(s.heap.push _).get? _=_
   rw[Heap.get?_push_size _ rfl,OL h1]
   unfold ij
   rw[if_pos h1]
   simp
  ·rintro i y hi ⟨t,rfl⟩
   refine⟨.int (a+c*(i:Int)),?_,?_⟩
   ·unfold ij at hi ⊢
    rw[length_map]at hi
    rw[getElem?_map,getElem?_eq_getElem hi,getElem_range];rfl
   ·rw[mul_comm c];exact .int _ _
 |aq xs=>
  cases r with|@mk a es n x r=>
  refine aX e fun h e=>aS h fun h1 h2=> ?_
  refine aC e ?_
  refine(BC (hU w) x r h1 h2).elim fun az q=>q.1.elim fun o d1=>d1.elim fun cA d1=>d1.elim fun ep d2=> ?_
  refine wpAny_pyIter_dict (knd:=(hU w).knd) x.1.2 ⟨o,cA,d2⟩ ⟨_,rfl,fun A' hA=>q5 (P:=fun i v=>∃k x,az[i]? =some (k,x)∧(hU w).knd.is k v=true) (fp:=[s.heap.objs.size,a]) (St:=fun i h=>h.IsKeyIter s.heap.objs.size a i az.length ep∧h.DictAt (hU w).knd a az ep) rfl hO (by rw[length_map,q.2.len.2]) (Walks.dictKeys hA s.heap.objs.size a (ne_size x.ok) az ep) ⟨⟨_,Heap.get?_push_size _ rfl,rfl,rfl⟩,⟨o,cA,Heap.get?_push_of_some _ d2.1,d2.2⟩⟩ (Cj (h:=s.heap) n x.ok) ?_ rfl fun i h st=>st.1.elim fun o q=>⟨o,_,q.1,q.2.1,by decide⟩⟩
  rintro i y hi ⟨k,u,h1,h2⟩
  exact(q.2.key i k u h1).elim fun p e=>⟨p.1,by rw[getElem?_map,e.1];rfl,e.2▸(Value.isInt_shape (show Value.isInt k y=true from h2)).elim fun t e=>e▸.int k t⟩
 |_=>exact ba e
end
end
section
open PySem.SeqAt
noncomputable def wk(w:World)(h:Heap)(O:Addr→Prop):List AV→List Value→Prop
 |[]=>fun vs=>vs=[]
 |d::ds=>cY (fun v=>RC w h O v d) (wk w h O ds)
abbrev ei(w:World)(h:Heap)(O:Addr→Prop)(vs:List Value)(ds:List AV):Prop:=wk w h O ds vs
theorem wk.nil:ei w h O [] []:=rfl
theorem wk.cons(a:RC w h O v d)(r:ei w h O vs ds):ei w h O (v::vs) (d::ds):=.mk a r
section
section
variable {C:List Value→Prop}
@[elab_as_elim] theorem El(e:hB ds f=some r)(p:ei w h O vs ds)(k:∀d ds v vs,f d ds=some r→RC w h O v d→ei w h O vs ds→C (v::vs)):C vs:=
 lI (C:=fun ds=>ei w h O vs ds→C vs) e (fun d t e p=>cY.casesOn (motive:=fun vs _=>C vs) p fun a b=>k _ _ _ _ e a b) p
@[elab_as_elim] theorem mW(e:jL ds f=some r)(p:ei w h O vs ds)(k:∀d v,f d=some r→RC w h O v d→C [v]):C vs:=
 DX (C:=fun ds=>ei w h O vs ds→C vs) e (fun d e p=>cY.casesOn (motive:=fun vs _=>C vs) p fun {v vs} a b=>(show vs=[]from b)▸k _ _ e a) p
end
theorem rO(hk:∀b o,s.heap.get? b=some o→h'.get? b=some o):PV w O s (.int i) (.int i t) {s with heap:=h',toks:=k}:=⟨⟨h',k,rfl,hk⟩,.int i t⟩
theorem aeB(e:aW .len ds=some d)(r:ei w s.heap O vs ds):wpAny (ah w) A (call (.builtin "len") vs) (PO w O s d) E s:=by
 refine mW e r fun x v e r=> ?_
 cases x with
 |bytes b=>cases r with|mk t hl=>refine aC e ?_;exact len_bytes (by simp;omega) (show PV w O s _ (.int (b.toArray.size:Int) _) _ from gP)
 |str b=>cases r with|mk t hl=>refine aC e ?_;exact PyProof.Rows.len_str (by omega) gP
 |lst b=>
  cases r with|mk _ x rs=>
  refine aC e ?_
  have z:=rs.length
  exact call_len_list x.isList (by have:=x.1;simp;omega) (z▸(show PV w O s _ (.int ((_:List Value).toArray.size:Int) _) _ from gP))
 |tup b=>
  cases r with|mk _ x rs=>
  refine aC e ?_
  have z:=rs.length
  exact x.2.elim fun n ho=>PyProof.Rows.len_tuple ⟨_,ho,rfl,n,rfl⟩ (by have:=x.1;simp;omega) (z▸(show PV w O s _ (.int ((_:List Value).toArray.size:Int) _) _ from gP))
 |_=>exact ba e
theorem acj(e:aW .int ds=some d)(r:ei w s.heap O vs ds):wpAny (ah w) A (call (.type "int") vs) (PO w O s d) E s:=by
 refine mW e r fun x v e r=> ?_
 cases x with
 |int i=>cases r with|mk t=>refine aC e ?_;exact _root_.PySem.call_int_int ⟨Kp.refl,.int i t⟩
 |bool b=>cases r;refine aC e ?_;exact _root_.PySem.call_int_bool gP
 |_=>exact ba e
theorem sV(e:aW .abs ds=some d)(r:ei w s.heap O vs ds):wpAny (ah w) A (call (.builtin "abs") vs) (PO w O s d) E s:=by
 refine mW e r fun x v e r=> ?_
 refine bO e r fun i t e=> ?_
 refine aC e ?_
 exact call_abs_int fun u tk=>gP
theorem VG(e:aW .chr ds=some d)(r:ei w s.heap O vs ds):wpAny (ah w) A (call (.builtin "chr") vs) (PO w O s d) E s:=by
 refine mW e r fun x v e r=> ?_
 refine bO e r fun i t e=>aX e fun h e=> ?_
 refine aC e ?_
 exact chr_of_range (bK h).1 (by have:=bK h;omega) ⟨Kp.tok,.str _ _ (by show 1≤_;omega)⟩
theorem ag7(e:aW .ord ds=some d)(r:ei w s.heap O vs ds):wpAny (ah w) A (call (.builtin "ord") vs) (PO w O s d) E s:=by
 refine mW e r fun x v e r=> ?_
 refine r8 e r fun i t e _=> ?_
 obtain⟨⟨l⟩⟩:=i
 refine DX (C:=fun l=>wpAny (ah w) A (call (.builtin "ord") [.str ⟨⟨l⟩⟩ t]) (PO w O s d) E s) e fun c e=> ?_
 refine aC e ?_
 exact ord_of_one rfl gP
theorem aiU(e:aW .range ds=some d)(r:ei w s.heap O vs ds)(hO:jQ s.heap O):wpAny (ah w) A (call (.type "range") vs) (PO w O s d) E s:=by
 refine El e r fun x ds v vs e r0 r=> ?_
 refine bO e r0 fun a t e=> ?_
 cases ds with
 |nil=>cases r;refine aC e ?_;exact _root_.PySem.call_range_1 ⟨Kp.push,.fV hO.new (Heap.get?_push_size _ rfl)⟩
 |cons y ds=>
  cases r with|mk r1 r=>
  refine bO e r1 fun b u e=> ?_
  cases ds with
  |nil=>cases r;refine aC e ?_;exact _root_.PySem.call_range_2 ⟨Kp.push,.fV hO.new (Heap.get?_push_size _ rfl)⟩
  |cons z ds=>
   cases r with|mk r2 r=>
   refine bO e r2 fun c z e=>aX e fun h e=>eE h fun h0 h1 h2=> ?_
   refine aC e ?_
   cases ds with
   |cons=>cases h0
   |nil=>cases r;exact call_range_3 (by have:=bK h1;omega) ⟨Kp.push,.fV hO.new (Heap.get?_push_size _ rfl)⟩ (.inl (NS h2))
theorem afO(hh:A.handled=none):wpAny (ah w) A (call (.builtin "max") [.int a t,.int b u]) (PO w O s (.int (if a<b then b else a))) E s:=by
 refine max_two_ints hh fun h' tk hk=> ?_
 by_cases h:b>a
 ·rw[if_pos h,if_pos h];exact rO hk
 ·rw[if_neg h,if_neg h];exact rO hk
theorem afZ(hh:A.handled=none):wpAny (ah w) A (call (.builtin "min") [.int a t,.int b u]) (PO w O s (.int (if b<a then b else a))) E s:=by
 refine min_two_ints hh fun h' tk hk=> ?_
 by_cases h:b<a
 ·rw[if_pos h,if_pos h];exact rO hk
 ·rw[if_neg h,if_neg h];exact rO hk
end
end
section
open PySem.SeqAt
theorem Kq:∀(l:List Int) (a),(l.foldl (fun a b=>if a<b then b else a) a∈a::l)∧∀x∈a::l,x≤l.foldl (fun a b=>if a<b then b else a) a
 |[],a=>by simp
 |b::l,a=>by
  obtain⟨h1,h2⟩:=Kq l (if a<b then b else a)
  rw[foldl_cons]
  generalize l.foldl (fun a b=>if a<b then b else a) (if a<b then b else a)=M at h1 h2
  have h3:=h2 _ (mem_cons_self ..)
  constructor
  ·rcases mem_cons.mp h1 with h|h
   ·rw[h];split<;>simp
   ·simp[h]
  ·intro x hx
   rcases mem_cons.mp hx with rfl|hx
   ·split at h3<;>omega
   ·rcases mem_cons.mp hx with rfl|hx
    ·split at h3<;>omega
    ·exact h2 x (by simp[hx])
theorem Kr:∀(l:List Int) (a),(l.foldl (fun a b=>if b<a then b else a) a∈a::l)∧∀x∈a::l,l.foldl (fun a b=>if b<a then b else a) a≤x
 |[],a=>by simp
 |b::l,a=>by
  obtain⟨h1,h2⟩:=Kr l (if b<a then b else a)
  rw[foldl_cons]
  generalize l.foldl (fun a b=>if b<a then b else a) (if b<a then b else a)=M at h1 h2
  have h3:=h2 _ (mem_cons_self ..)
  constructor
  ·rcases mem_cons.mp h1 with h|h
   ·rw[h];split<;>simp
   ·simp[h]
  ·intro x hx
   rcases mem_cons.mp hx with rfl|hx
   ·split at h3<;>omega
   ·rcases mem_cons.mp hx with rfl|hx
    ·split at h3<;>omega
    ·exact h2 x (by simp[hx])
section
theorem LG(h:IntsAre vs is):∃xs:Array (Int×Tok),vs.toArray=intItems xs∧is=xs.toList.map (·.1):=by
 obtain⟨xs,e⟩:=h.allInts.items
 exact⟨xs,e,by rw[←h.numsOf,←nums_intItems,←e]⟩
theorem Nz(h:i<xs.size):numAt xs i∈xs.toList.map (·.1):=by
 unfold numAt
 rw[Array.getElem?_eq_getElem h]
 exact mem_map.mpr ⟨xs[i],by simp,rfl⟩
theorem Ny(h:a∈xs.toList.map (·.1)):∃j,j<xs.size∧a=numAt xs j:=by
 obtain⟨p,hp,rfl⟩:=mem_map.mp h
 obtain⟨j,hj,e⟩:=List.mem_iff_getElem.mp hp
 rw[length_toList]at hj
 refine⟨j,hj,?_⟩
 unfold numAt
 rw[Array.getElem?_eq_getElem hj]
 rw[Array.getElem_toList]at e
 rw[e];rfl
theorem afP(hh:A.handled=none)(hx:LstAt s.heap a vs)(rs:au w s.heap O vs l)(e:(aw (intsOf l) fun is=>hB is fun a r=>some (AV.int (r.foldl (fun a b=>if a<b then b else a) a)))=some d):wpAny (ah w) A (call (.builtin "max") [.ref a]) (PO w O s d) E s:=
 aK e fun is hi e=>by
  revert hi
  refine lI (C:=fun is=>intsOf l=some is→_) e fun a is e hi=> ?_
  refine aC e ?_
  obtain⟨xs,e1,e2⟩:=LG (ints_of hi rs)
  have hs:0<xs.size:=by
   have:=congrArg List.length e2
   rw[length_map,length_toList]at this;simp at this;omega
  have hl:=hx.isList
  rw[e1]at hl
  refine max_intList hh hl hs fun v h' tk hv hk=> ?_
  obtain⟨t,rfl⟩:=intItems_at hv
  obtain⟨h1,h2⟩:=argBest_gt (numAt xs) (xs.size-1)
  obtain⟨m1,m2⟩:=Kq is a
  rw[e2]at m1 m2
  obtain⟨j,hj,ej⟩:=Ny m1
  have h3:=h2 j (by omega)
  have h4:=m2 _ (Nz (i:=argBest (fun i j=>decide (numAt xs i>numAt xs j)) (xs.size-1)) (by omega))
  rw[show numAt xs (argBest (fun i j=>decide (numAt xs i>numAt xs j)) (xs.size-1))=is.foldl (fun a b=>if a<b then b else a) a by omega]
  exact rO hk
theorem af0(hh:A.handled=none)(hx:LstAt s.heap a vs)(rs:au w s.heap O vs l)(e:(aw (intsOf l) fun is=>hB is fun a r=>some (AV.int (r.foldl (fun a b=>if b<a then b else a) a)))=some d):wpAny (ah w) A (call (.builtin "min") [.ref a]) (PO w O s d) E s:=
 aK e fun is hi e=>by
  revert hi
  refine lI (C:=fun is=>intsOf l=some is→_) e fun a is e hi=> ?_
  refine aC e ?_
  obtain⟨xs,e1,e2⟩:=LG (ints_of hi rs)
  have hs:0<xs.size:=by
   have:=congrArg List.length e2
   rw[length_map,length_toList]at this;simp at this;omega
  have hl:=hx.isList
  rw[e1]at hl
  refine min_intList hh hl hs fun v h' tk hv hk=> ?_
  obtain⟨t,rfl⟩:=intItems_at hv
  obtain⟨h1,h2⟩:=argBest_lt (numAt xs) (xs.size-1)
  obtain⟨m1,m2⟩:=Kr is a
  rw[e2]at m1 m2
  obtain⟨j,hj,ej⟩:=Ny m1
  have h3:=h2 j (by omega)
  have h4:=m2 _ (Nz (i:=argBest (fun i j=>decide (numAt xs i<numAt xs j)) (xs.size-1)) (by omega))
  rw[show numAt xs (argBest (fun i j=>decide (numAt xs i<numAt xs j)) (xs.size-1))=is.foldl (fun a b=>if b<a then b else a) a by omega]
  exact rO hk
theorem yH(hh:A.handled=none)(e:aW .max ds=some d)(r:ei w s.heap O vs ds):wpAny (ah w) A (call (.builtin "max") vs) (PO w O s d) E s:=by
 refine El e r fun x ds v vs e r0 r=> ?_
 cases ds with
 |nil=>cases r;refine pL e r0 fun l a us e hx rs=> ?_;exact afP hh hx rs e
 |cons y ds=>
  cases r with|mk r1 r=>
  refine aX e fun h e=> ?_
  cases ds with
  |cons=>cases h
  |nil=>cases r;refine bO e r0 fun a t e=> ?_;refine bO e r1 fun b u e=> ?_;refine aC e ?_;exact afO hh
theorem yI(hh:A.handled=none)(e:aW .min ds=some d)(r:ei w s.heap O vs ds):wpAny (ah w) A (call (.builtin "min") vs) (PO w O s d) E s:=by
 refine El e r fun x ds v vs e r0 r=> ?_
 cases ds with
 |nil=>cases r;refine pL e r0 fun l a us e hx rs=> ?_;exact af0 hh hx rs e
 |cons y ds=>
  cases r with|mk r1 r=>
  refine aX e fun h e=> ?_
  cases ds with
  |cons=>cases h
  |nil=>cases r;refine bO e r0 fun a t e=> ?_;refine bO e r1 fun b u e=> ?_;refine aC e ?_;exact afZ hh
theorem UO(hh:A.handled=none)(hx:LstAt s.heap a vs)(rs:au w s.heap O vs l)(e:jK l=some b):wpAny (ah w) A (call (.type "bytes") [.ref a]) (PO w O s (.bytes b)) E s:=
 (agK e).elim fun is h=>by
  have hi:=ints_of h.1 rs
  refine call_bytes_ints hx.isList hi h.2.1 (by have:=hx.1;rw[sizeLine_eq];omega) hh fun h' t k hk=> ?_
  rw[h.2.2]
  have hb:b.length=is.length:=by
   have:=congrArg Array.size h.2.2;rw[byteArr_size]at this;simpa using this.symm
  exact⟨⟨h',k,rfl,hk⟩,.bytes b t (by rw[hb,←hi.length];exact hx.1)⟩
theorem aeJ(e:aW .list ds=some d)(r:ei w s.heap O vs ds):wpAny (ah w) A (call (.type "list") vs) (PO w O s d) E s:=by
 refine mW e r fun x v e r=> ?_
 refine pL e r fun l a us e hx rs=> ?_
 refine aC e ?_
 refine hx.2.elim fun n ho=>call_list_seq a (.inl rfl) ho rfl rfl (fun h' c' hk hn=> ?_) (by rw[sizeLine_eq];simpa using hx.1)
 exact⟨⟨h',s.toks,rfl,hk⟩,(s.heap.objs.size,0),rfl,fun b hb=>by rw[show b=_ from hb];exact dU,us,⟨hx.1,c',hn⟩,rs.mv ⟨fun b o e _=>hk b o e,fun b e nO hb=>hb.elim nO fun hb=>by rw[show b=_ from hb,dU]at e;cases e⟩⟩
end
end
section
open PySem.SeqAt
theorem abb:typeLookup (.type "bytes") "__bytes__"=pure (some (.builtin "bytes.__bytes__")):=by rw[typeLookup_type,builtinLookup_eq_fast];kernel_rfl
theorem ach:typeLookup (.type "int") "__bytes__"=pure none:=by rw[typeLookup_type,builtinLookup_eq_fast];kernel_rfl
theorem int_index:typeLookup (.type "int") "__index__"=pure (some (.builtin "int.__index__")):=by rw[typeLookup_type,builtinLookup_eq_fast];kernel_rfl
section
theorem agn(h:Q (.bytes b t) s):codeAny (ah w) A (.call (.builtin "bytes.__new__") ⟨[.type "bytes",.bytes b t],[]⟩) (wants Q E) s:=by
 refine codeAny_call_builtin F.bm_plain F.bm_entry (wpAny_of_eq (F.bm_newCall _) ?_)
 unfold Builtin.«bytes.__new__»
 refine wpAny_bind (wpAny_of_eq (a:=true) rfl ?_)
 refine bm_if_false rfl ?_
 refine wpAny_bind (wpAny_of_eq F.bm_sub ?_)
 refine bm_if_false rfl ?_
 refine wpAny_bind (wpAny_of_eq (F.bm_bind _) ?_)
 refine wpAny_bind (wpAny_of_eq (a:=()) rfl ?_)
 refine wpAny_bind (wpAny_of_eq (a:=()) rfl ?_)
 refine bm_if_false rfl ?_
 refine wpAny_bind (wpAny_specialOf (typeIs_bytes s b t) abb ?_)
 refine wpAny_bind (wpAny_rule ?_)
 refine wpAny_bind (wpAny_typeOf (typeIs_bytes s b t) ?_)
 refine bm_if_true (by decide) ?_
 exact wpAny_pure h
theorem ago(h0:0≤n)(h1:n≤16777216)(h:∀tk k,Q (.bytes (Array.replicate n.toNat 0) tk) {s with toks:=k}):codeAny (ah w) A (.call (.builtin "bytes.__new__") ⟨[.type "bytes",.int n t],[]⟩) (wants Q E) s:=by
 refine codeAny_call_builtin F.bm_plain F.bm_entry (wpAny_of_eq (F.bm_newCall _) ?_)
 unfold Builtin.«bytes.__new__»
 refine wpAny_bind (wpAny_of_eq (a:=true) rfl ?_)
 refine bm_if_false rfl ?_
 refine wpAny_bind (wpAny_of_eq F.bm_sub ?_)
 refine bm_if_false rfl ?_
 refine wpAny_bind (wpAny_of_eq (F.bm_bind _) ?_)
 refine wpAny_bind (wpAny_of_eq (a:=()) rfl ?_)
 refine wpAny_bind (wpAny_of_eq (a:=()) rfl ?_)
 refine bm_if_false rfl ?_
 refine wpAny_bind (wpAny_specialOf (typeIs_int s n t) ach ?_)
 refine wpAny_bind (wpAny_of_eq (a:=false) rfl ?_)
 refine bm_if_false rfl ?_
 refine wpAny_bind (wpAny_specialOf (typeIs_int s n t) int_index ?_)
 refine bm_if_false rfl ?_
 refine wpAny_bind (wpAny_attempt (wpAny_of_eq (rfl:asIndex (.int n t)=pure n) ?_))
 dsimp only
 have hf:Builtin.Bytes.fitsIndex n=true:=by
  unfold Builtin.Bytes.fitsIndex
  simp only[and_eq_true,decide_eq_true_eq];omega
 refine bm_if_false (by rw[hf];rfl) ?_
 rw[if_neg (by omega)]
 rw[if_neg (by omega)]
 refine bm_if_false (by unfold Builtin.Bytes.tooLong;rw[sizeLine_eq,decide_eq_false];omega) ?_
 refine wpAny_bind (wpAny_rule ?_)
 refine wpAny_bind (wpAny_mkBytes ?_ (by rw[sizeLine_eq,Array.size_replicate];omega))
 exact wpAny_pure (h _ _)
theorem UR(hh:A.handled=none)(e:aW .bytes ds=some d)(r:ei w s.heap O vs ds):wpAny (ah w) A (call (.type "bytes") vs) (PO w O s d) E s:=by
 refine mW e r fun x v e r=> ?_
 cases x with
 |lst l=>cases r with|mk _ hx rs=>refine aK e fun b h e=> ?_;refine aC e ?_;exact UO hh hx rs h
 |bytes b=>
  cases r with|mk t hl=>
  refine aC e ?_
  exact callType_codes (Q₁:=fun obj bV=>bV.TypeIs obj "bytes"∧PO w O s (.bytes b) obj bV) F.bm_called (F.bm_typeCall _) F.entry_object_init
   (agn ⟨typeIs_bytes _ _ _,Kp.refl,.bytes b t hl⟩) fun obj bV gH=>⟨gH.1,F.args_object_init_2 obj _,object_init_meets F.bm_called.init.lookup F.bm_called.made (by decide) ey w A.in1 _ bV ⟨gH.1,rfl,gH.2⟩⟩
 |int n=>
  cases r with|mk t=>
  refine aX e fun hn e=> ?_
  refine aC e ?_
  have hn:=bK hn
  have h1:n≤16777216:=hn.2
  refine callType_codes (Q₁:=fun obj bV=>bV.TypeIs obj "bytes"∧PO w O s (.bytes (replicate n.toNat 0)) obj bV) F.bm_called (F.bm_typeCall _) F.entry_object_init
   (ago hn.1 h1 fun tk k=>⟨typeIs_bytes _ _ _,⟨_,_,rfl,fun _ _ e=>e⟩,?_⟩) fun obj bV gH=>⟨gH.1,F.args_object_init_2 obj _,object_init_meets F.bm_called.init.lookup F.bm_called.made (by decide) ey w A.in1 _ bV ⟨gH.1,rfl,gH.2⟩⟩
  have:=bk.bytes (w:=w) (h:=s.heap) (O:=O) (replicate n.toNat 0) tk (by rw[length_replicate];omega)
  rwa [List.toArray_replicate]at this
 |_=>exact ba e
end
end
section
open PySem.SeqAt
theorem ahK:plainId "bytes.join"=true:=by decide+kernel
theorem Yx:entryFor table "bytes.join"=some Builtin.«bytes.join» :=by first|exact entryFor_of_fast (by kernel_rfl)|exact entryFor_of_tree (by kernel_rfl)
theorem VD:checkBuiltinCall "bytes.join" ⟨[.bytes b t,v],[]⟩=pure ():=by kernel_rfl
section
theorem al7{id:String}{b:Array UInt8}:Builtin.Bytes.takeBufferQuiet? id (.bytes b t) 0=pure (some (b,none)):=by
 have h:Builtin.Bytes.takeBuffer? id (.bytes b t) 0=pure (some (b,none)):=by
  unfold Builtin.Bytes.takeBuffer?
  rw[KBy.special_eq KBy.look_buffer]
  show(Builtin.Bytes.slotIsOwn (.bytes b t) "__buffer__">>=fun r=>_)=_
  rw[KBy.own_buffer]
  show(Builtin.Bytes.buffer? id (.bytes b t)>>=fun r=>_)=_
  rw[KBy.buffer_eq]
  rfl
 unfold Builtin.Bytes.takeBufferQuiet?
 rw[h];rfl
theorem US:∀{l:List AV} {vs:List Value} {bs:List (List UInt8)},bytesOf l=some bs→au w h O vs l→∃ps:List (List UInt8×Tok),vs=ps.map (fun p=>.bytes p.1.toArray p.2)∧bs=ps.map (·.1):=fun {l}=>by
 induction l with
 |nil=>intro vs bs e r;refine aC e ?_;exact⟨[],r,rfl⟩
 |cons d l ih=>
  intro vs bs e r
  cases r with|mk p r=>
  refine vz e (.of p) fun b t e _=>aK e fun bs e1 e=> ?_
  refine aC e ?_
  exact(ih e1 r).elim fun ps h=>⟨(b,t)::ps,by rw[h.1];rfl,by rw[h.2];rfl⟩
theorem acE(bs:List (List UInt8)):Builtin.Bytes.joined #[] (bs.map toArray)=bs.flatten.toArray:=by
 have h:∀(bs:List (List UInt8)) (o:Array UInt8) (n:Nat),((bs.map toArray).zipIdx n).foldl (fun out (x:Array UInt8×Nat)=>(if x.2>0 then out++#[]else out)++x.1) o=o++bs.flatten.toArray:=by
  intro bs
  induction bs with
  |nil=>intro o n;simp
  |cons b r ih=>
   intro o n
   rw[map_cons,List.zipIdx_cons,foldl_cons,ih]
   simp
 have:=h bs #[] 0
 simpa [Builtin.Bytes.joined] using this
theorem acz(bs:List (List UInt8))(n:Nat):(bs.map toArray).foldl (fun a x=>a+x.size) n=n+bs.flatten.length:=by
 induction bs generalizing n with
 |nil=>rfl
 |cons b r ih=>rw[map_cons,foldl_cons,ih];simp;omega
theorem aeC(l:List (Value×Option Value))(hl:∀p∈l,p.2=none)(keep:List Value)(h:Q () s):wpAny (ah w) A (Builtin.Bytes.joinLetGo l keep) Q E s:=by
 induction l with
 |nil=>exact wpAny_pure h
 |cons p r ih=>
  obtain⟨x,y⟩:=p
  cases hl (x,y) mem_cons_self
  rw[Builtin.Bytes.joinLetGo]
  ·exact wpAny_bind (wpAny_letGo (ih fun p hp=>hl p (mem_cons_of_mem _ hp)))
  ·exact fun _ e=>nomatch e
theorem one_item(arr:Array Value)(f:Value→Sem PySem.Fin)(g:Sem PySem.Fin)(h1:∀x,arr=#[x]→wpAny (ah w) A (f x) P E s)(h2:wpAny (ah w) A g P E s):wpAny (ah w) A (match arr with|#[x]=>f x|_=>g) P E s:=by
 cases arr with|mk l=>
 cases l with
 |nil=>exact h2
 |cons x l=>
  cases l with
  |nil=>exact h1 x rfl
  |cons=>exact h2
theorem aas(G:Nat→β)(h:∀i,i<n→wpAny (ah w) A (body i (G i)) (fun r s'=>r=.yield (G (i+1))∧s'=s) E s)(hk:Q (G n) s):wpAny (ah w) A (forIn (range' 0 n) (G 0) body) Q E s:=by
 have key:∀m k,k+m=n→wpAny (ah w) A (forIn (range' k m) (G k) body) Q E s:=fun m=>by
  induction m with
  |zero=>exact fun k e=>wpAny_pure (((add_zero k).symm.trans e).symm▸hk)
  |succ m ih=>
   intro k e
   rw[List.range'_succ,forIn_cons]
   refine wpAny_bind (wpAny_mono (h k (e▸lt_add_of_pos_right (succ_pos m))) (fun r s' z=> ?_) fun _ _ z=>z)
   rw[z.1,z.2]
   exact ih (k+1) ((succ_add_eq_add_succ k m).trans e)
 exact key n 0 (zero_add n)
noncomputable def jV(ps:List (List UInt8×Tok)):List Value:=ps.map fun p=>.bytes p.1.toArray p.2
noncomputable def jG(ps:List (List UInt8×Tok))(i:Nat):Array (Array UInt8)×List (Value×Option Value):=(((ps.take i).map fun p=>p.1.toArray).toArray,(ps.take i).map fun p=>(Value.bytes p.1.toArray p.2,none))
theorem acw(hi:i<ps.length):jG ps (i+1)=((jG ps i).1.push ps[i].1.toArray,(jG ps i).2++[(Value.bytes ps[i].1.toArray ps[i].2,none)]):=by
 unfold jG
 rw[take_add_one,getElem?_eq_getElem hi,Option.toList_some,map_append,map_append]
 simp
theorem acx:(jG ps i).2.any (fun x=>x.1.onHeap)=false:=List.any_eq_false.mpr fun q hq=>(mem_map.mp hq).elim fun r h=>h.2▸Bool.false_ne_true
theorem acy(hi:i<ps.length):(jV ps).toArray.getD i Value.none=.bytes ps[i].1.toArray ps[i].2:=by
 unfold jV
 simp[hi]
theorem acD(hl:(ps.map (·.1)).flatten.length≤lim):Builtin.Bytes.tooLong ((jG ps ps.length).1.foldl (fun a x=>a+x.size) ((#[]:Array UInt8).size*((jG ps ps.length).1.size-1)))=false:=by
 rw[KBy.tooLong_not]
 unfold jG
 rw[take_of_length_le (le_refl _),←Array.foldl_toList,show ps.map (fun p=>p.1.toArray)=(ps.map (·.1)).map toArray by rw[map_map];rfl]
 have h1:=acz (ps.map (·.1)) 0
 have:lim=16777216:=rfl
 simp only[length_nil,Nat.zero_mul,size_toArray]at*
 omega
theorem ag1{ps:List (List UInt8×Tok)}{x:Value}(h:jV ps=[x]):∃p,ps=[p]∧x=.bytes p.1.toArray p.2:=by
 cases ps with
 |nil=>cases h
 |cons p ps=>
  cases ps with
  |cons=>cases h
  |nil=>cases h;exact⟨p,rfl,rfl⟩
def JQ(x:Tok×Addr×List (List UInt8×Tok)):Prop:=∀(A:Around) (s:Shared) (E:Value→Shared→Prop) (P:Fin→Shared→Prop) (n:Nat),s.heap.get? x.2.1=some ⟨.type "list",none,.seq (jV x.2.2).toArray n,#[]⟩→(x.2.2.map (·.1)).flatten.length≤lim→
 (∀tk k,P (.done (.ret (.bytes (x.2.2.map (·.1)).flatten.toArray tk))) {s with toks:=k})→wpAny (ah w) A (Builtin.«bytes.join» ⟨[.bytes #[] x.1,.ref x.2.1],[]⟩) P E s
def jq:Tok×Addr×List (List UInt8×Tok):=@Classical.epsilon _ ⟨(0,0,[])⟩ fun x=>¬JQ x
def jt:Tok:=jq.1
def ja:Addr:=jq.2.1
def jp:List (List UInt8×Tok):=jq.2.2
theorem acF(A:Around)(s:Shared)(E:Value→Shared→Prop)(P:Fin→Shared→Prop)(n:Nat)(ho:s.heap.get? ja=some ⟨.type "list",none,.seq (jV jp).toArray n,#[]⟩)(hl:(jp.map (·.1)).flatten.length≤lim)
  (h:∀tk k,P (.done (.ret (.bytes (jp.map (·.1)).flatten.toArray tk))) {s with toks:=k}):wpAny (ah w) A (Builtin.«bytes.join» ⟨[.bytes #[] jt,.ref ja],[]⟩) P E s:=by
 unfold Builtin.«bytes.join» Builtin.Bytes.joinM
 refine wpAny_bind (wpAny_of_eq (a:=((.bytes #[] jt:Value),(.ref ja:Value))) rfl ?_)
 refine bm_if_true rfl ?_
 refine wpAny_bind ?_
 unfold Builtin.Bytes.joinItems
 refine wpAny_bind (wpAny_typeOf (T:="list") ⟨_,ho,rfl⟩ ?_)
 refine bm_if_true rfl ?_
 refine wpAny_pure ?_
 refine wpAny_bind (wpAny_seqItems ho rfl ?_)
 dsimp only
 refine bm_if_true rfl ?_
 refine one_item (jV jp).toArray _ _ (fun x hx=> ?_) ?_
 ·refine(ag1 (congrArg Array.toList hx)).elim fun p e=> ?_
  rw[e.2]
  refine wpAny_bind (wpAny_typeOf (typeIs_bytes _ _ _) ?_)
  refine bm_if_true (by decide) ?_
  refine wpAny_bind (wpAny_rule ?_)
  refine wpAny_pure ?_
  have:=h p.2 s.toks
  rw[e.1]at this
  simpa using this
 ·rw[Std.Legacy.Range.forIn_eq_forIn_range',show Std.Legacy.Range.size [0:(jV jp).toArray.size]=jp.length by simp[Std.Legacy.Range.size,jV]]
  refine wpAny_bind (aas (jG jp) (fun i hi=> ?_) ?_)
  ·refine wpAny_bind (wpAny_seqItems ho rfl ?_)
   dsimp only
   rw[acy hi]
   refine bm_if_false (Bool.or_eq_false_iff.mpr ⟨rfl,acx⟩) ?_
   refine wpAny_bind (wpAny_holding (wpAny_of_eq al7 ?_))
   refine wpAny_bind (wpAny_seqItems ho rfl ?_)
   dsimp only
   refine bm_if_false (by simp) ?_
   exact wpAny_pure ⟨congrArg ForInStep.yield (acw hi).symm,rfl⟩
  ·refine wpAny_bind (wpAny_of_eq (a:=#[]) rfl ?_)
   refine bm_if_false (acD hl) ?_
   have hj:(jG jp jp.length).1.toList=(jp.map (·.1)).map toArray:=by
    unfold jG
    rw[take_of_length_le (le_refl _),map_map];rfl
   rw[hj,acE]
   refine wpAny_bind (wpAny_mkBytes ?_ (by rw[sizeLine_eq];have:lim=16777216:=rfl;simp only[size_toArray];omega))
   refine wpAny_bind (wpAny_holding (wpAny_point ?_))
   refine wpAny_bind (aeC _ (fun p hp=>(mem_map.mp hp).elim fun r q=>q.2▸rfl) _ ?_)
   exact wpAny_pure (h _ _)
theorem join_tree{t:Tok}{a:Addr}{vs:List Value}{bs:List (List UInt8)}(x:LstAt s.heap a vs){l:List AV}(hb:bytesOf l=some bs)(r:au w s.heap O vs l)(hl:bs.flatten.length≤lim){P:Fin→Shared→Prop}
  (h:∀tk k,P (.done (.ret (.bytes bs.flatten.toArray tk))) {s with toks:=k}):wpAny (ah w) A (Builtin.«bytes.join» ⟨[.bytes #[] t,.ref a],[]⟩) P E s:=
 (US hb r).elim fun ps e=>x.2.elim fun n ho=>by
  rw[e.1]at ho
  rw[e.2]at h hl
  exact Classical.byContradiction fun q=>absurd acF (@Classical.epsilon_spec _ (fun x=>¬JQ x) ⟨(t,a,ps),fun k=>q (k A s E P n ho hl h)⟩)
theorem acC(e:aW .join [.bytes b.toList,x]=some d)(r:RC w s.heap O v x)(hu:A.units+40<cLine):
  wpAny (ah w) A (call (.builtin "bytes.join") [.bytes b t,v]) (PO w O s d) (fun _ _=>False) s:=by
 refine pL e r fun l a vs e hx rs=>aX e fun hb e=>aK e fun bs h1 e=>aX e fun hl e=> ?_
 refine aC e ?_
 obtain⟨b⟩:=b
 obtain rfl:b=[]:=isEmpty_iff.mp hb
 exact wpAny_call (codeAny_call_builtin ahK Yx (wpAny_of_eq VD (join_tree hx h1 rs (bK hl) fun tk k=>⟨Kp.tok,.bytes _ _ (bK hl)⟩)))
end
end
section
open PySem.SeqAt
section
theorem q6{α:Type}{c:Prop}{_:Decidable c}{x y:Sem α}{Q}(h:¬c)(H:wpAny (ah w) A y Q E s):wpAny (ah w) A (if c then x else y) Q E s:=by rw[if_neg h];exact H
def oI(h:Heap)(d:Addr)(es:Array DictEntry)(n:Nat):Prop:=h.get? d=some ⟨.type "dict",none,.dict es n,#[]⟩
theorem SH{es:Array DictEntry}{i:Nat}(hi):(if(i:Int)<0 then none else es[(i:Int).toNat]?)=some es[i]:=by simp[hi]
theorem SG{es:Array DictEntry}:(if(es.size:Int)<0 then none else es[(es.size:Int).toNat]?)=none:=by simp
theorem aiX{d:Addr}{es:Array DictEntry}{n:Nat}{Q:Value→Shared→Prop}(hd:(d==sysModules)=false)(x:oI s.heap d es n)
  (hQ:Q (.ref s.heap.objs.size) {s with heap:=s.heap.push {cls:=.type "dict_keyiterator",data:=.fields #[.ref d,.int 0 0,.int es.size 0,.int n 0]}}):
  wpAny (ah w) A (pyIter (.ref d)) Q E s:=by
 have hT:s.TypeIs (.ref d) "dict":=⟨_,x,rfl⟩
 refine wpAny_pyIter_slot hT F.slot_dict_iter (wpAny_call_entry F.slot_dict_iter hT F.entry_dict_iter ?_ (F.args_dict_iter_1 _))
 unfold Builtin.«dict.__iter__» Builtin.Dict.dictSlotNone
 refine wpAny_bind (wpAny_bind (wpAny_notOrdered_dict hT (wpAny_pure ?_)))
 show wpAny _ _ (Builtin.Dict.showsAll d>>=_) _ _ s
 unfold Builtin.Dict.showsAll
 rw[if_neg (by rw[hd];exact Bool.false_ne_true)]
 refine wpAny_bind (wpAny_pure (wpAny_bind (wpAny_dictEntries x rfl (wpAny_bind (wpAny_dictEpoch x rfl ?_)))))
 refine wpAny_bind (wpAny_newObj_type (wpAny_pure ⟨_,rfl,"dict_keyiterator",_,⟨_,Heap.get?_push_size _ rfl,rfl⟩,F.slot_dict_keyiterator_next.lookup,?_⟩))
 simpa [rawInt] using hQ
theorem aiW{it d:Addr}{i n:Nat}{es:Array DictEntry}{Q:Option Value→Shared→Prop}(hit:s.heap.IsKeyIter it d i es.size n)(x:oI s.heap d es n)(hi:i<es.size)
  (hQ:∀h',h'.IsKeyIter it d (i+1) es.size n→Heap.SameBut it s.heap h'→Q (some es[i].key) {s with heap:=h'}):
  wpAny (ah w) A (pyNext (.ref it)) Q E s:=by
 obtain⟨o,ho,hc,hd⟩:=id hit
 unfold pyNext
 refine wpAny_bind (wpAny_attempt (wpAny_callSpecial?_slot (name:=Str.ofString "__next__") hit.typeIs F.slot_dict_keyiterator_next
  (wpAny_call_entry F.slot_dict_keyiterator_next hit.typeIs F.entry_dict_keyiterator_next ?_ (F.args_dict_keyiterator_next_1 _))))
 refine wpAny_bind (wpAny_pure (wpAny_bind (wpAny_bind ?_)))
 first|refine wpAny_bind (wpAny_typeNameOfWhole_keyiter hit.typeIs (wpAny_pure ?_))|refine wpAny_bind (wpAny_typeNameOf_keyiter hit.typeIs (wpAny_pure ?_))
 refine wpAny_bind (wpAny_fieldsOf ho hd ?_)
 show wpAny _ _ (if(Value.ref d==Value.none)=true then _ else _) _ _ s
 refine q6 Bool.false_ne_true ?_
 refine wpAny_bind (wpAny_pure (wpAny_bind (wpAny_dictEntries x rfl ?_)))
 refine q6 (by simp) ?_
 refine wpAny_bind (wpAny_pure (wpAny_bind (wpAny_dictEpoch x rfl ?_)))
 refine q6 (by simp) ?_
 refine wpAny_pure ?_
 dsimp only
 rw[SH hi]
 refine wpAny_bind ?_
 first|refine wpAny_bind (wpAny_typeNameOfWhole_keyiter hit.typeIs (wpAny_pure ?_))|refine wpAny_bind (wpAny_typeNameOf_keyiter hit.typeIs (wpAny_pure ?_))
 refine wpAny_bind (wpAny_isOneOf_keyiter hit.typeIs ?_)
 show wpAny _ _ (setField (.ref it) 1 (rawInt ((i:Int)+1))>>=_) _ _ s
 refine wpAny_bind (wpAny_setField ho hd (by simp) ?_)
 have xV:(s.heap.update it (Obj.mapFields (·.setIfInBounds 1 (rawInt ((i:Int)+1))))).IsKeyIter it d (i+1) es.size n:=
  ⟨_,Heap.get?_update_self _ ho (Obj.isFreed_of_fields (Obj.data_mapFields hd _)),(Obj.cls_mapFields ..).trans hc,by rw[Obj.data_mapFields hd];simp[rawInt]⟩
 refine wpAny_bind (wpAny_holding ?_)
 refine wpAny_bind (wpAny_isOneOf_keyiter (s:={s with heap:=s.heap.update it (Obj.mapFields (·.setIfInBounds 1 (rawInt ((i:Int)+1))))}) xV.typeIs ?_)
 show wpAny _ _ (pure es[i].key) _ _ _
 exact wpAny_pure (wpAny_pure ⟨_,rfl,wpAny_pure (hQ _ xV (Heap.SameBut.update ..))⟩)
theorem aiV{it d:Addr}{n:Nat}{es:Array DictEntry}{Q:Option Value→Shared→Prop}(hh:A.handled=none)(hit:s.heap.IsKeyIter it d es.size es.size n)(x:oI s.heap d es n)
  (hQ:∀h',Heap.ExtBut it s.heap h'→Q none {s with heap:=h'}):wpAny (ah w) A (pyNext (.ref it)) Q E s:=by
 obtain⟨o,ho,hc,hd⟩:=id hit
 unfold pyNext
 refine wpAny_bind (wpAny_attempt (wpAny_callSpecial?_slot (name:=Str.ofString "__next__") hit.typeIs F.slot_dict_keyiterator_next
  (wpAny_call_entry F.slot_dict_keyiterator_next hit.typeIs F.entry_dict_keyiterator_next ?_ (F.args_dict_keyiterator_next_1 _))))
 refine wpAny_bind (wpAny_pure (wpAny_bind (wpAny_bind ?_)))
 first|refine wpAny_bind (wpAny_typeNameOfWhole_keyiter hit.typeIs (wpAny_pure ?_))|refine wpAny_bind (wpAny_typeNameOf_keyiter hit.typeIs (wpAny_pure ?_))
 refine wpAny_bind (wpAny_fieldsOf ho hd ?_)
 show wpAny _ _ (if(Value.ref d==Value.none)=true then _ else _) _ _ s
 refine q6 Bool.false_ne_true ?_
 refine wpAny_bind (wpAny_pure (wpAny_bind (wpAny_dictEntries x rfl ?_)))
 refine q6 (by simp) ?_
 refine wpAny_bind (wpAny_pure (wpAny_bind (wpAny_dictEpoch x rfl ?_)))
 refine q6 (by simp) ?_
 refine wpAny_pure ?_
 dsimp only
 rw[SG]
 refine wpAny_bind ?_
 first|refine wpAny_bind (wpAny_typeNameOfWhole_keyiter hit.typeIs (wpAny_pure ?_))|refine wpAny_bind (wpAny_typeNameOf_keyiter hit.typeIs (wpAny_pure ?_))
 show wpAny _ _ (setField (.ref it) 0 .none>>=_) _ _ s
 refine wpAny_bind (wpAny_setField ho hd (by simp) ?_)
 show wpAny _ _ (newExc (.type "StopIteration") []>>=_) _ _ _
 refine wpAny_bind ?_
 simp only[newExc,newTuple]
 refine wpAny_bind (wpAny_newObj_type ?_ (by size_fits))
 refine wpAny_bind (m:=firstArgMember _ _) (wpAny_of_eq (a:=Value.none) (by first|rfl|(simp only[firstArgMember];rfl)) ?_)
 refine wpAny_newObj_type ?_ (by size_fits)
 unfold raiseNew
 refine wpAny_bind (wpAny_handled ?_)
 rw[show A.in1.handled=none from hh]
 refine wpAny_bind (wpAny_pure (wpAny_throw ?_))
 refine wpAny_bind (wpAny_isInstance (T:="StopIteration") (b:=true) ⟨_,Heap.get?_push_size _ rfl,rfl⟩ isSubtype_stop ?_)
 exact wpAny_pure (hQ _ (((Heap.SameBut.update ..).extBut.push _).push _))
theorem oI.lt{h:Heap}{d:Addr}{es:Array DictEntry}{n:Nat}(x:oI h d es n):d<h.objs.size:=Heap.lt_size (o:=_) x
theorem aiZ(hh:A.handled=none)(I d:Addr)(iI:d≠I)(es:Array DictEntry)(n:Nat):
  Walks ey w A I [I,d] [I] es.size (fun i v=>∃hi:i<es.size,v=es[i].key) (fun i h=>h.IsKeyIter I d i es.size n∧oI h d es n) where
 sub:=fun b hb=>by simp at hb;simp[hb]
 frame:=fun _ _ _ st hk=>⟨st.1.at fun o e=>hk I (by simp) o e,hk d (by simp) _ st.2⟩
 item:=fun i s Q E hi st hQ=>by
  refine aiW st.1 st.2 hi fun h' xV di=> ?_
  exact hQ _ h' s.toks ⟨hi,rfl⟩ ⟨xV,di.extBut d _ iI st.2⟩ fun b o hb e=>di.extBut b o (fun h=>hb (by simp[h])) e
 done:=fun s Q E st hQ=>aiV hh st.1 st.2 fun h' he'=>hQ h' s.toks fun b o hb e=>he' b o (fun h=>hb (by simp[h])) e
 self:=fun _ _ _ _ st hQ=>wpAny_pyIter_keyiter st.1 hQ
theorem aiY{d:Addr}{es:Array DictEntry}{n:Nat}(lo:(d==sysModules)=false):KdlSrc ey w "dict" d d es.size (fun i v=>∃hi:i<es.size,v=es[i].key) (fun h=>oI h d es n) where
 type:=fun _ hm=>⟨_,hm,rfl⟩
 there:=fun _ hm=>⟨hm.lt,hm.lt⟩
 keep:=fun _ _ hm hk=>hk d (.inl rfl) _ hm
 notList:=by decide
 notTuple:=by decide
 hint:=fun _ _ _ _ hm hq=>kdl_hint_dict ⟨_,hm,rfl⟩ hq
 iter:=fun _ _ hh hm=>⟨_,_,(fun _ _ hq=>aiX lo hm hq),aiZ hh _ d (ne_of_lt hm.lt) es n,⟨⟨_,Heap.get?_push_size _ rfl,rfl,rfl⟩,Heap.get?_push_of_some _ hm⟩⟩
theorem WH{a:Addr}{vs:List Value}{Q:List Value→Shared→Prop}(x:LstAt s.heap a vs)(h:∀s1,Kp s s1→Q vs s1):wpAny (ah w) A (collect (.ref a)) Q E s:=by
 obtain⟨hl,n,ho⟩:=x
 refine wpAny_collect_seq a (.inl rfl) ho rfl rfl (fun h' hk=> ?_) (by rw[sizeLine_eq];simpa using hl)
 exact h _ ⟨h',s.toks,rfl,hk⟩
theorem WG{a:Addr}{es:List DictEntry}{Q:List Value→Shared→Prop}(hh:A.handled=none)(x:cX s.heap a es)(h:∀s1,Kp s s1→Q (es.map (·.key)) s1):wpAny (ah w) A (collect (.ref a)) Q E s:=by
 obtain⟨⟨hl,hs⟩,n,ho⟩:=x
 refine kdu_collect (aiY (n:=n) (es:=es.toArray) hs) hh ho (by rw[sizeLine_eq];simpa using hl) fun h' tk acc hk hi=> ?_
 have:acc.toList=es.map (·.key):=by
  refine List.ext_getElem ?_ fun i h1 h2=> ?_
  ·rw[length_toList,hi.1];simp
  ·obtain⟨_,e⟩:=hi.2 i _ (Array.getElem?_eq_getElem (by simpa using h1))
   simpa using e
 rw[this]
 exact h _ ⟨h',tk,rfl,hk⟩
end
end
section
open PySem.SeqAt
section
noncomputable def lJ(h:Heap)(a:Addr)(vs:List Value):Heap:=((h.update a (Obj.mapSeq fun _=>#[])).push (seqObj "tuple" vs.toArray 0)).push (seqObj "list" #[] 0)
theorem Pg(R:List Value→Prop)(ho:s.heap.get? a=some (seqObj "list" vs.toArray n))(h64:vs.length<64)
  (h1:vs.length<2→R vs)
  (h2:2≤vs.length→wpAny (ah w) A (keyKind' vs.toArray) (fun κ s'=>wpAny (ah w) A ((sortRuns').run (SortSt.mk' κ (vs.toArray.zip vs.toArray) #[] 7 none))
   (fun r ip=>ip={s with heap:=lJ s.heap a vs}∧failedOf r.2=none∧(arrOf r.2).size=vs.length∧R ((arrOf r.2).map (·.2)).toList) (fun _ _=>False) s') (fun _ _=>False) {s with heap:=lJ s.heap a vs})
  (h:∀out:Array Value,R out.toList→P (.done (.ret .none)) {s with heap:=sortedHeap s.heap a vs out}):
  wpAny (ah w) A (Builtin.«list.sort» ⟨[.ref a],[]⟩) P E s:=by
 rw[list_sort_plain]
 have ha:a<s.heap.objs.size:=Heap.lt_size ho
 refine wpAny_bind (listItems_at ho rfl ?_)
 refine wpAny_bind (listUpdate_at ho rfl ?_ (by rw[size_toArray,sizeLine_eq];omega) (zero_le _))
 obtain⟨e1,j9⟩:∃e1,(s.heap.update a (Obj.mapSeq fun _=>#[])).get? a=some (seqObj "list" #[] e1):=⟨_,get?_update_seq ho (fun _=>#[])⟩
 refine wpAny_bind (seqEpoch_at j9 rfl ?_)
 refine wpAny_bind (wpAny_newTuple ?_ (by show vs.length≤_;rw[sizeLine_eq];omega))
 refine wpAny_bind (wpAny_newList ?_ (zero_le _))
 refine wpAny_holding ?_
 have xY:(lJ s.heap a vs).get? a=some (seqObj "list" #[] e1):=by
  unfold lJ
  rw[Heap.get?_push_ne _ _ _ (by rw[size_push',Heap.size_update];exact ne_of_lt (Nat.lt_succ_of_lt ha)),Heap.get?_push_ne _ _ _ (by rw[Heap.size_update];exact ne_of_lt ha)]
  exact j9
 show wpAny (ah w) A _ P E {s with heap:=lJ s.heap a vs}
 dsimp only
 by_cases h0:vs.toArray.size<2
 ·rw[if_pos h0,if_pos h0]
  refine wpAny_bind (wpAny_pure ?_)
  rw[StateT.run_pure]
  refine wpAny_bind (wpAny_pure ?_)
  dsimp only
  refine wpAny_bind (seqEpoch_at xY rfl ?_)
  refine wpAny_bind (listUpdate_at xY rfl ?_ (zero_le _) (by rw[size_map];show(PyProof.Rows.pairsOf vs).size≤_;rw[pairsOf_size,sizeLine_eq];omega))
  simp only[bne_self_eq_false,false_eq_true,if_false]
  refine wpAny_pure (h ((vs.toArray.zip vs.toArray).map fun p:Value×Value=>p.2) ?_)
  have:((vs.toArray.zip vs.toArray).map fun p:Value×Value=>p.2).toList=vs:=by
   rw[Array.toList_map,Array.toList_zip,List.map_snd_zip (le_refl _)]
  rw[this]
  exact h1 (by simpa using h0)
 ·rw[if_neg h0,if_neg h0]
  refine wpAny_bind (wpAny_mono (h2 (by simp at h0;omega)) (fun κ s0 hk=> ?_) fun _ _ x=>x.elim)
  refine wpAny_bind (wpAny_mono hk ?_ fun _ _ x=>x.elim)
  rintro ⟨⟨⟩,af⟩ _ ⟨rfl,hf,hz,hr⟩
  dsimp only
  refine wpAny_bind (seqEpoch_at xY rfl ?_)
  refine wpAny_bind (listUpdate_at xY rfl ?_ (zero_le _) (by rw[size_map,hz,sizeLine_eq];omega))
  rw[hf]
  simp only[bne_self_eq_false,false_eq_true,if_false]
  exact wpAny_pure (h _ hr)
theorem Px(r:RV w h O v (.tup (.int i::l))):∃a vs t,v=.ref a∧TupAt h a (.int i t::vs):=by
 cases r with|mk n x r=>
 cases r with|mk r1 r=>
 cases r1 with|mk t=>exact⟨_,_,t,rfl,x⟩
theorem afX(hb:b≠a)(dB:b<h.objs.size):(lJ h a vs).get? b=h.get? b:=by
 unfold lJ
 rw[Heap.get?_push_ne _ _ _ (by rw[size_push',Heap.size_update];exact ne_of_lt (Nat.lt_succ_of_lt dB)),
  Heap.get?_push_ne _ _ _ (by rw[Heap.size_update];exact ne_of_lt dB),Heap.get?_update_ne _ _ _ _ hb]
theorem Py(x:TupAt h b us)(ho:h.get? a=some (seqObj "list" vs.toArray n)):∃n',(lJ h a vs).get? b=some (seqObj "tuple" us.toArray n'):=by
 obtain⟨hl,n',e⟩:=x
 refine⟨n',?_⟩
 have hb:b≠a:=by
  rintro rfl
  rw[ho]at e
  have:=congrArg (fun o:Option Obj=>o.map (·.cls)) e
  simp[seqObj]at this
 rw[afX hb (Heap.lt_size e),e]
theorem ali(ho:s.heap.get? a=some (seqObj "list" [v,u].toArray n))(hv:RV w s.heap O v (.tup (.int i::x)))(hu:RV w s.heap O u (.tup (.int j::y)))(hij:i≠j)
  (h:P (.done (.ret .none)) {s with heap:=sortedHeap s.heap a [v,u] (if j<i then#[u,v]else#[v,u])}):
  wpAny (ah w) A (Builtin.«list.sort» ⟨[.ref a],[]⟩) P E s:=by
 obtain⟨p,ps,tp,rfl,hp⟩:=Px hv
 obtain⟨q,qs,tq,rfl,hq⟩:=Px hu
 obtain⟨np,ep⟩:=Py hp ho
 obtain⟨nq,eq⟩:=Py hq ho
 refine Pg (fun l=>l=if j<i then [.ref q,.ref p]else [.ref p,.ref q]) ho (by simp) (fun h=>by simp at h) (fun _=> ?_) fun out ho=> ?_
 ·refine kat_kind (T:=.type "int") (fs:=[.int i tp,.int j tq]) (KatTups.cons ep rfl rfl rfl (KatTups.cons eq rfl rfl rfl .nil)) (by simp) ?_ rfl ?_
  ·intro v hv
   rcases mem_cons.mp hv with rfl|hv
   ·exact Looks.of_pure rfl
   ·rw[mem_singleton.mp hv];exact Looks.of_pure rfl
  refine kat_run (Q:=fun r ip=>ip={s with heap:=lJ s.heap a [.ref p,.ref q]}∧failedOf r=none∧(arrOf r).size=[Value.ref p,Value.ref q].length∧((arrOf r).map (·.2)).toList=if j<i then [.ref q,.ref p]else [.ref p,.ref q]) (G:=fun(p':Array Nat) s'=>s'={s with heap:=lJ s.heap a [.ref p,.ref q]}∧(p'.toList.map fun k=>[Value.ref p,Value.ref q].getD k Value.none)=if j<i then [.ref q,.ref p]else [.ref p,.ref q]) (vs:=[.ref p,.ref q]) (ks:=[.ref p,.ref q]) rfl (by simp) (by simp) ?_ ?_
  ·rintro p' af s' h1 h2 h3 ⟨rfl,h4⟩
   refine⟨rfl,h3,by rw[h2,size_map,h1],?_⟩
   rw[kat_snds rfl h2]
   exact h4
  ·rw[show(Value.type "int"!=Value.type "tuple")=true from rfl]
   kat_step
   refine kat_lt eq rfl ep rfl ?_
   show KatLex _ _ _ _ _ _ ((.int j tq,.int i tp)::_) 0 _
   refine kat_cons (wpAny_eqBool_int ?_)
   have iI:(j==i)=false:=by simpa using fun h:j=i=>hij h.symm
   simp only[iI]
   refine kat_no ?_
   show wpAny _ _ (oneLt' true (.int j tq) (.int i tp)) _ _ _
   refine oneLt_int ?_
   refine kas_split (fun hk=> ?_) (fun hk=> ?_)
   ·unfold KasNext
    kat_step
    have hk:j<i:=by simpa using hk
    refine⟨rfl,?_⟩
    rw[if_pos hk];rfl
   ·unfold KasNext
    kat_step
    have hk:¬j<i:=by simpa using hk
    refine⟨rfl,?_⟩
    rw[if_neg hk];rfl
 ·have:out=if j<i then#[.ref q,.ref p]else#[.ref p,.ref q]:=by
   apply Array.toList_inj.mp
   rw[ho]
   split<;>rfl
  rw[this]
  exact h
end
end
section
open PySem.SeqAt
section
variable {lt:α→α→Bool}
theorem Dd(x):∀l:List α,(mH lt x l).Perm (x::l)
 |[]=>.refl _
 |y::r=>by
  rw[Lv]
  split
  ·exact .refl _
  ·exact((Dd x r).cons y).trans (.swap x y r)
theorem Lw(as:∀a b,lt a b=true→lt b a=false)(tr:∀a b c,lt b a=false→lt c b=false→lt c a=false)(x):∀l:List α,l.Pairwise (fun a b=>lt b a=false)→(mH lt x l).Pairwise (fun a b=>lt b a=false)
 |[],_=>List.pairwise_singleton ..
 |y::r,h=>by
  obtain⟨h1,h2⟩:=pairwise_cons.mp h
  rw[Lv]
  split
  ·rename_i hx
   refine pairwise_cons.mpr ⟨fun z hz=> ?_,h⟩
   rcases mem_cons.mp hz with rfl|hz
   ·exact as _ _ hx
   ·exact tr _ _ _ (as _ _ hx) (h1 z hz)
  ·rename_i hx
   refine pairwise_cons.mpr ⟨fun z hz=> ?_,Lw as tr x r h2⟩
   rcases mem_cons.mp ((Dd x r).mem_iff.mp hz)with rfl|hz
   ·simpa using hx
   ·exact h1 z hz
theorem Pf(as:∀a b,lt a b=true→lt b a=false)(tr:∀a b c,lt b a=false→lt c b=false→lt c a=false)(l:List α):(sortBy lt l).Perm l∧(sortBy lt l).Pairwise (fun a b=>lt b a=false):=by
 have h:∀(l a:List α),a.Pairwise (fun a b=>lt b a=false)→(l.foldl (fun a x=>mH lt x a) a).Perm (l++a)∧(l.foldl (fun a x=>mH lt x a) a).Pairwise (fun a b=>lt b a=false):=by
  intro l
  induction l with
  |nil=>intro a h;exact⟨.refl _,h⟩
  |cons x r ih=>
   intro a h
   obtain⟨h1,h2⟩:=ih (mH lt x a) (Lw as tr x a h)
   refine⟨h1.trans ?_,h2⟩
   exact(List.Perm.append_left r (Dd x a)).trans List.perm_middle
 have:=h l [] .nil
 rwa [append_nil]at this
theorem uniq(an:∀a b,le a b→le b a→a=b):∀{a b:List α},a.Perm b→a.Pairwise le→b.Pairwise le→a=b
 |[],_,p,_,_=>p.nil_eq
 |x::r,[],p,_,_=>absurd p.length_eq (by simp)
 |x::r,y::t,p,ha,hb=>by
  obtain⟨a1,a2⟩:=pairwise_cons.mp ha
  obtain⟨b1,b2⟩:=pairwise_cons.mp hb
  have e:x=y:=by
   rcases mem_cons.mp (p.mem_iff.mp (mem_cons_self (a:=x)))with h|h
   ·exact h
   ·rcases mem_cons.mp (p.mem_iff.mpr (mem_cons_self (a:=y)))with h'|h'
    ·exact h'.symm
    ·exact an _ _ (a1 y h') (b1 x h)
  subst e
  rw[uniq an (List.Perm.cons_inv p) a2 b2]
end
theorem sortI{l l':List Int}(p:l'.Perm l)(h:l'.Pairwise (· ≤ ·)):l'=sortBy (fun a b=>decide (a<b)) l:=by
 obtain⟨h1,h2⟩:=Pf (lt:=fun a b:Int=>decide (a<b)) (fun a b h=>by simp at h ⊢;omega) (fun a b c h1 h2=>by simp at h1 h2 ⊢;omega) l
 refine uniq (le:=(· ≤ ·)) (fun a b h1 h2=>by omega) (p.trans h1.symm) h (h2.imp fun h=>by simpa using h)
theorem ltNats_eq:∀a b:List Nat,ltNats a b=decide (a<b)
 |[],[]=>rfl
 |[],_::_=>(decide_eq_true (List.nil_lt_cons ..)).symm
 |_::_,[]=>(decide_eq_false (List.not_lt_nil _)).symm
 |a::as,b::bs=>by
  show(if a=b then ltNats as bs else decide (a<b))=_
  rw[ltNats_eq as bs]
  by_cases h:a=b
  ·subst h;simp[List.cons_lt_cons_iff]
  ·rw[if_neg h];simp[List.cons_lt_cons_iff,h]
theorem alg{l l':List Str}(p:l'.Perm l)(h:l'.Pairwise (fun a b=>ltNats b.cps.toList a.cps.toList=false)):l'=sortBy (fun a b=>ltNats a.cps.toList b.cps.toList) l:=by
 obtain⟨h1,h2⟩:=Pf (lt:=fun a b:Str=>ltNats a.cps.toList b.cps.toList) (fun a b h=>by
  rw[ltNats_eq]at h ⊢;simp only[decide_eq_true_eq,decide_eq_false_iff_not]at h ⊢
  exact fun h'=>absurd (List.lt_trans h h') (List.lt_irrefl _)) (fun a b c h1 h2=>by
  rw[ltNats_eq]at h1 h2 ⊢;simp only[decide_eq_false_iff_not,List.not_lt]at h1 h2 ⊢
  exact List.le_trans h1 h2) l
 refine uniq (le:=fun a b:Str=>ltNats b.cps.toList a.cps.toList=false) (fun a b h1 h2=> ?_) (p.trans h1.symm) h h2
 rw[ltNats_eq]at h1 h2
 simp only[decide_eq_false_iff_not,List.not_lt]at h1 h2
 have:=List.le_antisymm h1 h2
 obtain⟨⟨a⟩⟩:=a
 obtain⟨⟨b⟩⟩:=b
 simp at this
 rw[this]
end
section
open PySem.SeqAt
section
theorem alP:∀{l} {vs} {ss},strsOf l=some ss→au w h O vs l→StrsAre vs ss∧∀x∈ss,x.length≤16777216:=fun {l}=>by
 induction l with
 |nil=>intro vs ss e r;refine aC e ?_;cases r;exact⟨.nil,fun _ h=>nomatch h⟩
 |cons d l ih=>
  intro vs ss e r
  cases r with|mk p r=>
  refine r8 e (.of p) fun x t e hx=>aK e fun ss e1 e=> ?_
  refine aC e ?_
  have k:=ih e1 r
  exact⟨.cons x t k.1,fun y hy=>(mem_cons.mp hy).elim (fun q=>q▸hx) (k.2 y)⟩
theorem agY(x:StrsAre vs ss):(∀x∈ss,x.length≤16777216)→au w h O vs (ss.map .str):=by
 induction x with
 |nil=>exact fun _=>.nil
 |cons y t r ih=>exact fun hl=>.mk (.str y t (hl y (mem_cons_self ..))) (ih fun x hx=>hl x (mem_cons_of_mem _ hx))
theorem OF:∀(p:Str) (l),risingS p l=true→(p::l).Pairwise (fun a b=>ltNats b.cps.toList a.cps.toList=false)
 |p,[],_=>by simp
 |p,x::r,h=>by
  have h:(!PySem.Spec.ltCps x.cps.toList p.cps.toList&&risingS x r)=true:=h
  rw[and_eq_true]at h
  have h1:ltNats x.cps.toList p.cps.toList=false:=by rw[ltNats_eq,←ltCps_eq];simpa using h.1
  have h2:=OF x r h.2
  refine pairwise_cons.mpr ⟨fun y hy=> ?_,h2⟩
  rcases mem_cons.mp hy with rfl|hy
  ·exact h1
  ·have h3:=(pairwise_cons.mp h2).1 y hy
   rw[ltNats_eq]at h1 h3 ⊢
   simp only[decide_eq_false_iff_not,List.not_lt]at h1 h3 ⊢
   exact List.le_trans h1 h3
theorem alk:∀(l:List Str),sortedS l=true→l.Pairwise (fun a b=>ltNats b.cps.toList a.cps.toList=false)
 |[],_=>.nil
 |x::r,h=>OF x r h
theorem alh(e:oz ds=some g8)(r:au w h0 O vs ds)(hk:∀b o,h0.get? b=some o→s.heap.get? b=some o)(ho:s.heap.get? a=some (seqObj "list" vs.toArray n))
  (h:∀out:Array Value,out.toList.length<64→au w h0 O out.toList g8→P (.done (.ret .none)) {s with heap:=sortedHeap s.heap a vs out}):
  wpAny (ah w) A (Builtin.«list.sort» ⟨[.ref a],[]⟩) P E s:=by
 unfold oz at e
 have hlen:=r.length
 by_cases h1:ds.length≤1
 ·rw[if_pos h1]at e
  cases e
  exact Pg (fun l=>l=vs) ho (by omega) (fun _=>rfl) (fun h=>by omega) fun out ho=>h out (by rw[ho];omega) (by rw[ho];exact r)
 ·rw[if_neg h1]at e
  by_cases h2:ds.length<64
  ·rw[if_pos h2]at e
   cases hi:intsOf ds with
   |some is=>
    rw[hi]at e
    cases e
    have hI:=ints_of hi r
    refine list_sort_tree ho hI (by omega) fun out ns' h1 h2 h3=> ?_
    have hl:=h1.length
    have:=h2.length_eq
    have:=hI.length
    refine h out (by omega) ?_
    rw[←sortI h2 h3]
    exact agT h1
   |none=>
    rw[hi]at e
    cases hs:strsOf ds with
    |some ss=>
     rw[hs]at e
     cases e
     obtain⟨hS,hL⟩:=alP hs r
     refine list_sort_treeK strKind_oneLt ho hS.keysOf (fun aos aot rest e=>keyKind_strs (by rw[←e];exact hS)) (by omega) fun af hp hs=> ?_
     obtain⟨ss',h1,h2,h3⟩:=sorted_out_str hS hp hs
     have e1:=alg h2 (alk _ h3)
     have r1:=agY (h:=h0) (O:=O) h1 fun x hx=>hL x (h2.mem_iff.mp hx)
     refine h _ ?_ (e1▸r1)
     have:=r1.length
     have:=h2.length_eq
     have:=hS.length
     simp at*
     omega
    |none=>
     rw[hs]at e
     have e:Pe ds=some g8:=e
     clear hs hi hlen h1 h2
     revert r
     refine vV (C:=fun ds=>au w h0 O vs ds→_) e fun x y e r=> ?_
     cases r with|mk r1 r=>
     cases r with|mk r2 r=>
     cases r
     revert r1 r2
     refine nJ (C:=fun x=>RV w h0 O _ x→RV w h0 O _ y→_) e fun xs e=> ?_
     refine nJ (C:=fun y=>RV w h0 O _ (.tup xs)→RV w h0 O _ y→_) e fun ys e=> ?_
     refine lI (C:=fun xs=>RV w h0 O _ (.tup xs)→RV w h0 O _ (.tup ys)→_) e fun i x e=> ?_
     refine lI (C:=fun ys=>RV w h0 O _ (.tup (i::x))→RV w h0 O _ (.tup ys)→_) e fun j y e=> ?_
     refine nG (C:=fun i=>RV w h0 O _ (.tup (i::x))→RV w h0 O _ (.tup (j::y))→_) e fun i e=> ?_
     refine nG (C:=fun j=>RV w h0 O _ (.tup (.int i::x))→RV w h0 O _ (.tup (j::y))→_) e fun j e r1 r2=>aX e fun hc e=>eE hc fun _ _ hc=> ?_
     cases e
     refine ali ho (r1.mv ⟨fun b o e _=>hk b o e,fun _ _ e=>e⟩) (r2.mv ⟨fun b o e _=>hk b o e,fun _ _ e=>e⟩) (bK hc) (h _ ?_ ?_)
     ·split<;>exact show 2<64 by decide
     ·split
      ·exact .mk r2 (.mk r1 .nil)
      ·exact .mk r1 (.mk r2 .nil)
  ·rw[if_neg h2]at e;cases e
end
end
section
open PySem.SeqAt
section
theorem Ph(hh:A.handled=none)(hc:∀(A':Around) (E':Value→Shared→Prop) (Q:List Value→Shared→Prop),A'.handled=none→(∀s1,Kp s s1→Q vs s1)→wpAny (ah w) A' (collect v) Q E' s)
  (e:oz ds=some g8) (r:au w s.heap O vs ds) (hl:vs.length≤16777216):
  wpAny (ah w) A (call (.builtin "sorted") [v]) (PO w O s (.lst g8)) E s:=by
 refine Calls.call_function_entry kind_sorted plain_sorted entry_sorted (args_sorted1 _) ?_
 unfold Builtin.«sorted»
 refine wpAny_bind (m:=checkCount "sorted" 1 1 _) (wpAny_pure ?_)
 refine wpAny_bind (hc _ _ _ hh fun s1 k=> ?_)
 obtain⟨h1,t1,rfl,k1⟩:=k
 refine wpAny_bind (wpAny_newList ?_ (by rw[sizeLine_eq];omega))
 have CY:(h1.push (seqObj "list" vs.toArray 0)).get? h1.objs.size=some (seqObj "list" vs.toArray 0):=Heap.get?_push_size _ rfl
 have hn:s.heap.get? h1.objs.size=none:=by
  cases e:s.heap.get? h1.objs.size with
  |none=>rfl
  |some o=>exact absurd (Heap.lt_size (k1 _ _ e)) (lt_irrefl _)
 have hk:∀b o,s.heap.get? b=some o→(h1.push (seqObj "list" vs.toArray 0)).get? b=some o:=fun b o e=>Heap.get?_push_of_some _ (k1 b o e)
 show wpAny _ _ _ _ _ {s with heap:=h1.push (seqObj "list" vs.toArray 0),toks:=t1}
 refine wpAny_bind (wpAny_holding (wpAny_call_entry slot_list_sort ⟨_,CY,rfl⟩ entry_list_sort (alh (s:={s with heap:=h1.push (seqObj "list" vs.toArray 0),toks:=t1}) e r hk CY fun out a1 a2=>⟨_,rfl,?_⟩) (args_list_sort _)))
 refine wpAny_pure ⟨_,rfl,?_⟩
 obtain⟨n,e1⟩:=sortedHeap_at (out:=out) CY
 have Lb:∀b o,s.heap.get? b=some o→(sortedHeap (h1.push (seqObj "list" vs.toArray 0)) h1.objs.size vs out).get? b=some o:=fun b o e=>by
  rw[sortedHeap_old (fun q=>by rw[q,hn]at e;cases e) (Heap.lt_size (hk b o e))]
  exact hk b o e
 refine⟨⟨_,_,rfl,Lb⟩,(h1.objs.size,0),rfl,fun b hb=>by rw[show b=_ from hb];exact hn,out.toList,⟨by omega,n,by rw[toArray_toList];exact e1⟩,?_⟩
 refine a2.mv ⟨fun b o e _=>Lb b o e,fun b e nO hb=> ?_⟩
 rcases hb with hb|hb
 ·exact nO hb
 ·rw[show b=_ from hb,hn]at e;cases e
theorem iy.keys:∀{l:List (AV×AV)} {es:List DictEntry},c8 w h O es l→au w h O (es.map (·.key)) (l.map (·.1)):=fun {l}=>by
 induction l with
 |nil=>intro es r;rw[show es=[]from r];exact rfl
 |cons p l ih=>intro es r;cases r with|mk e r=>cases e with|mk a b=>exact .mk a (ih r)
theorem alj(hh:A.handled=none)(e:aW .sorted ds=some d)(r:ei w s.heap O vs ds):wpAny (ah w) A (call (.builtin "sorted") vs) (PO w O s d) E s:=by
 refine mW e r fun x v e r=> ?_
 cases x with
 |lst l=>cases r with|mk _ x rs=>refine aK e fun l' e2 e=> ?_;refine aC e ?_;exact Ph hh (fun A' E' Q _ h=>WH x h) e2 rs x.1
 |aq l=>cases r with|mk _ x rs=>refine aK e fun l' e2 e=> ?_;refine aC e ?_;exact Ph hh (fun A' E' Q hA h=>WG hA x h) e2 rs.keys (by simpa using x.1.1)
 |_=>exact ba e
end
end
section
open PySem.SeqAt
theorem agt:typeLookup (.type "list") "keys"=pure none:=by rw[typeLookup_type,builtinLookup_eq_fast];kernel_rfl
section
theorem adV(hx:s.heap.get? a=some ⟨.type "list",none,.seq xs k,#[]⟩)(hA:A.handled=none)(h:∀s1,Kp s s1→Q none s1):
  wpAny (ah w) A (getAttr? (.ref a) "keys") Q E s:=by
 obtain⟨hp,g,d,tk,os⟩:=s
 have hT:∀oB,(⟨hp,g,d,oB,os⟩:Shared).TypeIs (.ref a) "list":=fun _=>⟨_,hx,rfl⟩
 have f1:=sub_AttributeError
 have f3:=F.slot_list_getattribute.lookup
 have f4:=F.slot_list_getattribute.bind (.ref a)
 have f5:=am_list_getattr_none
 unfold getAttr? getAttrBy? getAttrBy
 repeat (any_goals (first|assumption|exact hT _|((with_reducible show wpAny _ _ (call (Value.builtin "list.__getattribute__") _ _) _ _ _);refine call_meets F.slot_list_getattribute (hT _) am_entry_list_getattribute (F.args_list_getattribute_2 _ _) (meets_getattribute_miss_list a xs k #[] "keys" _ agt (by decide+kernel)) ⟨hx,hA,fun h' oB e nU=> ?_⟩)|wp_step))
 obtain⟨t',u',he⟩:=nU.there
 have done:Q none ⟨h',g,d,oB,os⟩:=h _ ⟨h',oB,rfl,nU.keeps⟩
 show wpAny _ _ (getattributeRaised _ _ _ _ _ _ _) _ _ _
 unfold getattributeRaised
 repeat (any_goals (first|exact done|assumption|wp_step))
end
end
section
open PySem.SeqAt
theorem IU:entryFor table "dict.update.loop"=some Builtin.«dict.update.loop» :=by first|exact entryFor_of_fast (by kernel_rfl)|exact entryFor_of_tree (by kernel_rfl)
theorem yV:plainId "dict.update.loop"=true:=by decide+kernel
section
theorem aib(hk0:∀b o,h0.get? b=some o→s.heap.get? b=some o)(k:c9 l (.tup kl)=true)(da:cX s.heap d es)(r1:c8 w h0 O es l)
  (q:RV w h0 O i (.tup kl)) (r:RV w h0 O v y) (hu:A.units<cLine):
  wpAny (ah w) A (dictSet d i v) (fun _ s'=>(∃h' tk,s'={s with heap:=h',toks:=tk}∧Heap.SameBut d s.heap h')∧∃cA,cX s'.heap d cA∧c8 w h0 O cA (dh l (.tup kl) y)) E s:=by
 have hlen:=BF l (.tup kl) y
 have mv:Mv h0 s.heap O O:=⟨fun b o e _=>hk0 b o e,fun _ _ n=>n⟩
 refine xd k fun k1 k2 k3 k4=>aS k1 fun k1 _=>(isSome_iff_exists.mp k1).elim fun is e'=>(OD r1 (Ml k)).elim fun xs rh=>da.exact.elim fun o z=>z.elim fun n z=> ?_
 have hlx:=rh.1.len
 have hD:s.heap.DictOfH (tk w) d xs:=⟨o,_,n,z.1,z.2.1,z.2.2,by simpa using rh.2,(rh.1.mv mv).keys,Ay rh.1 k3⟩
 have q1:=q
 revert q1
 cases q with|@mk adU _ n t rr=>
 intro q1
 refine wpAny_dictSet_heap (knd:=tk w) (by show A.units<cLine;exact hu) (sD e' (q1.mv mv)) hD (fun h' hd hs=> ?_) (by rw[hlx,sizeLine_eq];omega)
 have a1:=OE e' q1 r rh.1 (Ay rh.1 k3)
 have vB:RH w h0 O (dh l (.tup kl) y) (storedH xs is adU v):=by
  unfold storedH
  by_cases z:is∈xs.map (·.1)
  ·rw[if_pos (wz.mpr z)];exact a1.1 z
  ·rw[if_neg (fun y=>z (wz.mp y))];exact a1.2 z
 refine⟨⟨h',_,rfl,hs⟩,?_⟩
 obtain⟨o,nA,n2,e2,ex,d2,le,ki,nd⟩:=hd
 refine⟨nA.toList,BB e2 ex d2 ?_ da.1.2,?_⟩
 ·rw[←length_toList,le,length_map,vB.len];omega
 ·rw[le];exact vB.res
theorem ajK(r:RV w h O v (.tup [k,y])):∃a x z,v=.ref a∧TupAt h a [x,z]∧RV w h O x k∧RV w h O z y:=by
 cases r with|mk n t r=>
 cases r with|mk r1 r=>
 cases r with|mk r2 r=>
 cases r
 exact⟨_,_,_,rfl,t,r1,r2⟩
theorem adX(h:(kind x==3)=true):∃l,x=.tup l:=by
 cases x<;>first|exact⟨_,rfl⟩|exact noConfusion h
theorem amt(hA:A.handled=none)(hu:A.units+1<cLine)(ue:h0.get? d=none)(xN:h0.get? I=none)(ug:d≠I)(KQ:(h0.get? a).isSome=true)
  (W:Walks ey w A.in1 I [I,a] [I] vs.toArray.size (fun i v=>vs.toArray[i]? =some v) (fun i h=>h.IsListIter I a i∧h.IsList a vs.toArray)):
  ∀(ps:List (AV×AV)) (pre post:List Value) (m:List (AV×AV)) (es:List DictEntry) (t:Tok) (s:Shared),vs=pre++post→au w h0 O post (ps.map fun p=>AV.tup [p.1,p.2])→
   Cg ps m=some mf→
   (∀b o,h0.get? b=some o→s.heap.get? b=some o)→(s.heap.IsListIter I a pre.length∧s.heap.IsList a vs.toArray)→cX s.heap d es→c8 w h0 O es m→
   (∀(h':Heap) tk cA,(∀b o,h0.get? b=some o→h'.get? b=some o)→cX h' d cA→c8 w h0 O cA mf→R (.ok (.ret .none)) {s with heap:=h',toks:=tk})→
   codeAny (ah w) A (.builtin "dict.update.loop" ⟨[.ref d,.ref I,.int pre.length t,.none],[]⟩) R s:=by
 intro ps
 induction ps with
 |nil=>
  intro pre post m es t s hv r hf hk st da re hR
  cases r
  cases hf
  refine codeAny_builtin IU ?_
  rw[Around.under_plainId yV _]
  unfold Builtin.«dict.update.loop»
  rw[append_nil]at hv
  refine wpAny_bind (W.done s _ _ (by rw[hv]at st ⊢;simpa using st) fun h' oB CJ=> ?_)
  dsimp only
  refine wpAny_bind (wpAny_pure ?_)
  refine wpAny_pure ?_
  have hn:∀b o,b∉[I]→s.heap.get? b=some o→h'.get? b=some o:=CJ
  refine hR h' oB es (fun b o e=>hn b o ?_ (hk b o e)) (da.move fun o e=>hn d o ?_ e) re
  ·intro hb
   rw[mem_singleton.mp hb,xN]at e;cases e
  ·intro hb
   exact ug (mem_singleton.mp hb)
 |cons p ps ih=>
  intro pre post m es t s hv r hf hk st da re hR
  obtain⟨kk,yy⟩:=p
  cases r with
  |@mk vi post r1 r=>
   refine aX hf fun hc CA=>aS hc fun hdk hc=>(adX hc).elim fun kl e=> ?_
   subst e
   obtain⟨ta,kv,vv,rfl,tx,rk,ry⟩:=ajK r1
   refine codeAny_builtin IU ?_
   rw[Around.under_plainId yV _]
   unfold Builtin.«dict.update.loop»
   refine wpAny_bind (W.item pre.length s _ _ (by rw[hv];simp) st fun v h1 tk1 hP aj K9=> ?_)
   have ev:v=.ref ta:=by
    rw[hv]at hP
    simpa using hP.symm
   subst ev
   dsimp only
   have mA:∀b o,h0.get? b=some o→h1.get? b=some o:=fun b o e=>K9 b o (fun hb=>by rw[mem_singleton.mp hb,xN]at e;cases e) (hk b o e)
   obtain⟨tl,tn,te⟩:=tx
   have te:=mA _ _ te
   have XE:cX h1 d es:=da.move fun o e=>K9 d o (fun hb=>ug (mem_singleton.mp hb)) e
   refine wpAny_bind (wpAny_holding (wpAny_bind (wpAny_tryCatch ?_)))
   unfold Builtin.Dict.pairItems
   refine wpAny_bind (wpAny_typeOf (T:="tuple") ⟨_,te,rfl⟩ ?_)
   refine bm_if_true rfl ?_
   refine wpAny_bind (wpAny_seqItems te rfl ?_)
   refine wpAny_pure ?_
   show wpAny _ _ (holding [kv,vv] (dictSet d kv vv)) _ _ _
   refine wpAny_holding (wpAny_mono (aib (h0:=h0) (s:={s with heap:=h1,toks:=tk1}) mA hdk XE re rk ry hu) ?_ fun _ _ x=>x)
   rintro _ _ ⟨⟨h3,tk3,rfl,sb⟩,YJ,XF,re3⟩
   refine wpAny_pure ⟨plainId_quiet yV _,?_⟩
   have CK:∀b o,b≠d→h1.get? b=some o→h3.get? b=some o:=fun b o n e=>(sb.2 b n).trans e
   have:=ih (pre++[.ref ta]) post (dh m (.tup kl) yy) YJ 0 {s with heap:=h3,toks:=tk3} (by rw[hv];simp) r CA (fun b o e=>CK b o (fun q=>by rw[q,ue]at e;cases e) (mA b o e)) ?_ XF re3 fun h' oB cA x1 x2 x3=>hR h' oB cA x1 x2 x3
   ·rw[length_append,length_singleton]at this
    exact this
   ·rw[length_append,length_singleton]
    refine⟨aj.1.at fun o e=>CK I o (fun q=>ug q.symm) e,aj.2.at fun o e=>CK a o (fun q=> ?_) e⟩
    rw[q,ue]at KQ;cases KQ
end
end
section
open PySem.SeqAt
section
theorem ahe:∀{l} {ps:List (AV×AV)},pairsOf l=some ps→l=ps.map fun p=>AV.tup [p.1,p.2]:=fun {l}=>by
 induction l with
 |nil=>intro ps e;refine aC e ?_;rfl
 |cons d l ih=>
  intro ps e
  refine nJ (C:=fun d=>d::l=_) e fun t e=> ?_
  refine vV (C:=fun t=>AV.tup t::l=_) e fun k v e=>aK e fun ps e1 e=> ?_
  refine aC e ?_
  rw[ih e1];rfl
theorem XT(hh:A.handled=none)(hs:(s.heap.get? sysModules).isSome=true)(hu:A.units+40<cLine)(e:aW .dict ds=some d)(r:ei w s.heap O Fe ds):wpAny (ah w) A (call (.type "dict") Fe) (PO w O s d) E s:=by
 refine mW e r fun x v e r=> ?_
 refine pL e r fun l a vs e hx rs=>aK e fun ps hps e=>aK e fun mf hf e=> ?_
 refine aC e ?_
 refine hx.2.elim fun n ho=> ?_
 rw[ahe hps]at rs
 have uk:∀b o,s.heap.get? b=some o→(s.heap.push {cls:=.type "dict",data:=.dict #[]}).get? b=some o:=fun b o e=>Heap.get?_push_of_some _ e
 refine callType_codes (Q₁:=fun obj bV=>obj=.ref s.heap.objs.size∧bV={s with heap:=s.heap.push {cls:=.type "dict",data:=.dict #[]}}) F.kt_called_dict (F.kt_typeCall_dict_1 _) F.entry_dict_init (kt_code_dict_new _ ⟨rfl,rfl⟩) ?_
 rintro obj bV ⟨rfl,rfl⟩
 have hd:(s.heap.push {cls:=.type "dict",data:=.dict #[]}).get? s.heap.objs.size=some {cls:=.type "dict",data:=.dict #[]}:=Heap.get?_push_size _ rfl
 have hT:Shared.TypeIs {s with heap:=s.heap.push {cls:=.type "dict",data:=.dict #[]}} (.ref s.heap.objs.size) "dict":=⟨_,hd,rfl⟩
 have j9:=uk _ _ ho
 refine⟨hT,F.args_dict_init_2 _ _,?_⟩
 unfold Builtin.«dict.__init__»
 refine wpAny_bind ?_
 unfold Builtin.Dict.selfAndRest
 refine wpAny_bind (wpAny_notOrdered_dict hT ?_)
 show wpAny _ _ (pure (s.heap.objs.size,[Value.ref a])) _ _ _
 refine wpAny_pure ?_
 show wpAny _ _ (Builtin.Dict.updateFrom "dict.__init__" s.heap.objs.size (.ref a) [] .none) _ _ _
 unfold Builtin.Dict.updateFrom
 refine wpAny_bind (wpAny_typeOf (T:="list") ⟨_,j9,rfl⟩ ?_)
 refine bm_if_true (by decide) ?_
 refine wpAny_bind (adV j9 hh fun s1 k=> ?_)
 obtain⟨h1,t1,rfl,k1⟩:=k
 refine bm_if_true rfl ?_
 refine wpAny_bind (wpAny_rule ?_)
 have nR:=k1 _ _ j9
 have mA:∀b o,s.heap.get? b=some o→h1.get? b=some o:=fun b o e=>k1 b o (uk b o e)
 have hL:h1.IsList a vs.toArray:=⟨_,nR,rfl,n,rfl⟩
 refine wpAny_bind (wpAny_pyIter_list hL ?_)
 refine wpAny_pure ⟨plainId_quiet yV _,?_⟩
 have ue:s.heap.get? s.heap.objs.size=none:=dU
 have xS:(h1.get? s.heap.objs.size).isSome=true:=by rw[k1 _ _ hd];rfl
 have Cu:h1.get? h1.objs.size=none:=dU
 have ug:s.heap.objs.size≠h1.objs.size:=fun q=>by rw[q,Cu]at xS;cases xS
 have xN:s.heap.get? h1.objs.size=none:=by
  cases e:s.heap.get? h1.objs.size with
  |none=>rfl
  |some o=>have:=mA _ _ e;rw[Cu]at this;cases this
 have hnm:(s.heap.objs.size==sysModules)=false:=by
  rw[beq_eq_false_iff_ne]
  intro q
  rw[←q,ue]at hs;cases hs
 have iI:a≠h1.objs.size:=fun q=>by rw[q,Cu]at nR;cases nR
 refine amt (A:=A.in1) (h0:=s.heap) (vs:=vs) (mf:=mf) (O:=O) hh (by show A.units+1+1<cLine;omega) ue xN ug (by rw[ho];rfl) (Walks.list (A:=A.in1.in1) hh h1.objs.size a iI vs.toArray) ps [] vs [] [] 0 _ rfl rs hf
  (fun b o e=>Heap.get?_push_of_some _ (mA b o e)) ⟨⟨_,Heap.get?_push_size _ rfl,rfl,rfl⟩,hL.push _⟩ ⟨⟨by simp,hnm⟩,0,Heap.get?_push_of_some _ (k1 _ _ hd)⟩ .nil fun h' tk cA x1 x2 x3=> ?_
 refine⟨rfl,⟨h',tk,rfl,x1⟩,(s.heap.objs.size,0),rfl,fun b hb=>by rw[show b=_ from hb];exact dU,cA,x2,?_⟩
 refine x3.mv ⟨fun b o e _=>x1 b o e,fun b e nO hb=> ?_⟩
 rcases hb with hb|hb
 ·exact nO hb
 ·rw[show b=_ from hb,dU]at e;cases e
end
end
section
open PySem.SeqAt
noncomputable def oU:BI→Option (Str×Value)
 |.len=>some ("len",.builtin "len")
 |.bytes=>some ("bytes",.type "bytes")
 |.int=>some ("int",.type "int")
 |.abs=>some ("abs",.builtin "abs")
 |.max=>some ("max",.builtin "max")
 |.min=>some ("min",.builtin "min")
 |.chr=>some ("chr",.builtin "chr")
 |.ord=>some ("ord",.builtin "ord")
 |.sorted=>some ("sorted",.builtin "sorted")
 |.range=>some ("range",.type "range")
 |.list=>some ("list",.type "list")
 |.tuple=>some ("tuple",.type "tuple")
 |.dict=>some ("dict",.type "dict")
 |_=>none
section
theorem UN{x y:Str}{f g:Value}{C:Value→Prop}(h:some (x,f)=some (y,g))(k:C f):C g:=(Prod.mk.inj (Option.some.inj h)).2▸k
theorem Uv{b:BI}{x:Str}{f:Value}{vs:List Value}{d:AV}(hb:oU b=some (x,f))(e:aW b ds=some d)(hO:jQ s.heap O)(hs:(s.heap.get? sysModules).isSome=true)(r:ei w s.heap O vs ds)(hh:A.handled=none)(hu:A.units+40<cLine):
  wpAny (ah w) A (call f vs) (PO w O s d) (fun _ _=>False) s:=by
 have k:=fun {g:Value} {y:Str} (h:some (y,g)=some (x,f)) (z:wpAny (ah w) A (call g vs) (PO w O s d) (fun _ _=>False) s)=>UN (C:=fun f=>wpAny (ah w) A (call f vs) (PO w O s d) (fun _ _=>False) s) h z
 cases b with
 |len=>exact k hb (aeB e r)
 |bytes=>exact k hb (UR hh e r)
 |int=>exact k hb (acj e r)
 |abs=>exact k hb (sV e r)
 |max=>exact k hb (yH hh e r)
 |min=>exact k hb (yI hh e r)
 |chr=>exact k hb (VG e r)
 |ord=>exact k hb (ag7 e r)
 |sorted=>exact k hb (alj hh e r)
 |range=>exact k hb (aiU e r hO)
 |list=>exact k hb (aeJ e r)
 |tuple=>exact ba e
 |dict=>exact k hb (XT hh hs hu e r)
 |_=>exact ba hb
end
end
section
inductive aI where|loc (C:Addr) (x:Str)|jY (c:Addr)
noncomputable def aI.ctorIdx(k:aI):Nat:=aI.casesOn (motive:=fun _=>Nat) k (fun _ _=>0) fun _=>1
noncomputable def aI.addr:aI→Addr
 |.loc C _=>C
 |.jY c=>c
def eA(h:Heap):aI→Option Value→Prop
 |.loc C x,v=>∃m,h.Ns C m∧m x=v
 |.jY c,v=>h.IsCell c v
theorem Nw{h:Heap}{a:Addr}(x:h.Ns a m)(y:h.Ns a m'):m=m':=by
 obtain⟨o,es,ep,e,d,_,f⟩:=x
 obtain⟨o',cA,ep',e',d',_,f'⟩:=y
 rw[e]at e';cases e'
 rw[d]at d';cases d'
 funext n;rw[←f,←f']
theorem eA.inj(x:eA h k u)(y:eA h k v):u=v:=by
 cases k with
 |loc C n=>obtain⟨m,a,rfl⟩:=x;obtain⟨m',b,rfl⟩:=y;rw[Nw a b]
 |jY c=>
  obtain⟨o,e,d⟩:=x;obtain⟨o',e',d'⟩:=y
  rw[e]at e';cases e'
  rw[d]at d';cases d';rfl
theorem eA.move(x:eA h k u)(m:∀o,h.get? k.addr=some o→h'.get? k.addr=some o):eA h' k u:=by
 cases k with
 |loc C n=>obtain⟨f,a,e⟩:=x;exact⟨f,a.at' m,e⟩
 |jY c=>obtain⟨o,e,d⟩:=x;exact⟨o,m _ e,d⟩
theorem eA.some(x:eA h k u):(h.get? k.addr).isSome=true:=by
 cases k with
 |loc C n=>obtain⟨f,⟨o,_,_,e,_⟩,_⟩:=x;show(h.get? C).isSome=true;rw[e];rfl
 |jY c=>obtain⟨o,e,d⟩:=x;show(h.get? c).isSome=true;rw[e];rfl
def Own(ps:Nat→Addr×Addr)(st:St)(b:Addr):Prop:=∃i c,st.get i=.own c∧c.aU (ps i) b
def HO(hs:List aI)(b:Addr):Prop:=∃k∈hs,k.addr=b
def OO(ae:Addr→Prop)(hs:List aI)(ps:Nat→Addr×Addr)(st:St)(b:Addr):Prop:=ae b∨HO hs b∨Own ps st b
def oO(w:World)(h:Heap)(O:Addr→Prop)(p:Addr×Addr)(k:aI):Slot→Prop
 |.no=>∃u,eA h k u
 |.val d=>∃v,eA h k (some v)∧RV w h O v d
 |.own c=>eA h k (some (.ref p.1))∧cW w h O p c
structure Inv (w:World) (aa:Heap) (ae:Addr→Prop) (hs:List aI) (ps:Nat→Addr×Addr) (st:St) (s:Shared):Prop where
 len:st.length=hs.length
 nodup:hs.Nodup
 stat:∀b o,aa.get? b=some o→s.heap.get? b=some o
 bB:jQ s.heap (OO ae hs ps st)
 old:∀b,OO ae hs ps st b→aa.get? b=none
 slot:∀i k,hs[i]? =some k→oO w s.heap (OO ae hs ps st) (ps i) k (st.get i)
 apart:∀i c b,st.get i=.own c→c.aU (ps i) b→¬ae b∧¬HO hs b∧∀j c',j≠i→st.get j=.own c'→¬c'.aU (ps j) b
def cy(W:Addr→Prop)(s s':Shared):Prop:=∃h' tk,s'={s with heap:=h',toks:=tk}∧(∀b o,s.heap.get? b=some o→¬W b→h'.get? b=some o)∧∀b,h'.get? b=none→s.heap.get? b=none
theorem cy.keep(a:cy W s s')(b o)(x:s.heap.get? b=some o)(n:¬W b):s'.heap.get? b=some o:=
 a.elim fun _ a=>a.elim fun _ a=>a.1▸a.2.1 b o x n
theorem cy.gone(a:cy W s s')(b)(x:s'.heap.get? b=none):s.heap.get? b=none:=
 a.elim fun _ a=>a.elim fun _ a=>a.2.2 b ((congrArg (fun z:Shared=>z.heap.get? b) a.1).symm.trans x)
theorem cy.refl:cy W s s:=⟨s.heap,s.toks,rfl,fun _ _ e _=>e,fun _ e=>e⟩
theorem n4{h h':Heap}(k:∀b o,h.get? b=some o→h'.get? b=some o)(b:Addr)(e:h'.get? b=none):h.get? b=none:=by
 cases q:h.get? b with
 |none=>rfl
 |some o=>rw[k b o q]at e;cases e
theorem Kp.aF{W:Addr→Prop}(a:Kp s s'):cy W s s':=
 a.imp fun _ a=>a.imp fun _ a=>⟨a.1,fun b o x _=>a.2 b o x,n4 a.2⟩
theorem Nv(m:p→q∨x=none)(n:¬q)(e:x=some o):¬p:=fun z=>(m z).elim n fun z=>nomatch z.symm.trans e
theorem cy.trans(a:cy W s s')(c:cy W' s' ip)(m:∀b,W' b→W b∨s.heap.get? b=none):cy W s ip:=
 c.imp fun h2 c=>c.imp fun t2 c=>⟨a.elim fun _ a=>a.elim fun _ a=>by rw[c.1,a.1],fun b o x n=>c.2.1 b o (a.keep b o x n) (Nv (m b) n x),fun b x=>a.gone b (c.2.2 b x)⟩
theorem cy.mono(a:cy W s s')(m:∀b,W b→W' b∨s.heap.get? b=none):cy W' s s':=
 a.imp fun _ a=>a.imp fun _ a=>⟨a.1,fun b o x n=>a.2.1 b o x (Nv (m b) n x),a.2.2⟩
structure cZ (ps:Nat→Addr×Addr) (af st:St):Prop where
 len:af.length=st.length
 own:∀i c',af.get i=.own c'→∃c,st.get i=.own c∧∀b,c'.aU (ps i) b→c.aU (ps i) b
theorem cZ.refl{ps}{st}:cZ ps st st:=⟨rfl,fun _ c e=>⟨c,e,fun _ x=>x⟩⟩
theorem cZ.trans(x:cZ ps a b)(y:cZ ps b c):cZ ps a c:=
 ⟨x.len.trans y.len,fun i d e=>by
  obtain⟨d',e',k⟩:=x.own i d e
  obtain⟨Xk,XY,k'⟩:=y.own i d' e'
  exact⟨Xk,XY,fun b z=>k' b (k b z)⟩⟩
theorem cZ.mem{ps}{af st}(x:cZ ps af st)(a:Own ps af b):Own ps st b:=
 a.elim fun i a=>a.elim fun c a=>(x.own i c a.1).elim fun c' y=>⟨i,c',y.1,y.2 b a.2⟩
theorem cZ.OO{ps:Nat→Addr×Addr}{af st:St}{ae:Addr→Prop}(x:cZ ps af st)(a:OO ae hs ps af b):OO ae hs ps st b:=
 Or.imp_right (Or.imp_right x.mem) a
theorem cW.mv(x:cW w h O p c)(k:∀b o,c.aU p b→h.get? b=some o→h'.get? b=some o)(m:Mv h h' O O'):cW w h' O' p c:=by
 cases c with
 |lst l=>exact x.elim fun vs a=>⟨vs,a.1.move fun o e=>k _ o rfl e,a.2.mv m⟩
 |aq l=>exact x.elim fun vs a=>⟨vs,a.1.move fun o e=>k _ o rfl e,a.2.mv m⟩
 |inst d fs=>exact x.elim fun es a=>⟨es,k _ _ (.inl rfl) a.1,a.2.1.move fun o e=>k _ o (.inr rfl) e,a.2.2.mv m⟩
theorem cW.rv(x:cW w h O p c)(n:∀b,c.aU p b→¬O' b)(m:Mv h h O O'):RV w h O' (.ref p.1) c.av:=by
 cases c with
 |lst l=>exact x.elim fun vs a=>.mk (n _ rfl) a.1 (a.2.mv m)
 |aq l=>exact x.elim fun vs a=>.mk (n _ rfl) a.1 (a.2.mv m)
 |inst d fs=>exact x.elim fun es a=>.mk (n _ (.inl rfl)) (n _ (.inr rfl)) a.1 a.2.1 (a.2.2.mv m)
theorem cW.ok(x:cW w h O p c)(o:c.aU p b):(h.get? b).isSome=true:=by
 cases c with
 |lst l=>exact x.elim fun vs a=>(show b=_ from o)▸a.1.ok
 |aq l=>exact x.elim fun vs a=>(show b=_ from o)▸a.1.ok
 |inst d fs=>exact x.elim fun es a=>o.elim (fun q=>q▸isSome_of_eq_some a.1) fun q=>q▸a.2.1.ok
section
variable {ae:Addr→Prop} {hs:List aI} {ps:Nat→Addr×Addr} {st af pO:St} {s s' ip:Shared}
theorem Mv.less(k:∀b,O' b→O b):Mv h h O O':=⟨fun _ _ e _=>e,fun _ _ n x=>n (k _ x)⟩
theorem Cn(h:st.length≤i):st.get i=.no:=by
 unfold St.get;rw[getD_eq_getElem?_getD,getElem?_eq_none h];rfl
theorem Inv.lt(e:st.get i=.own c):i<st.length:=Nat.lt_of_not_le fun h=>by rw[Cn h]at e;cases e
theorem Inv.ph(I:Inv w aa ae hs ps st s)(e:st.get i=.own c):∃k,hs[i]? =some k:=⟨_,getElem?_eq_getElem (I.len▸Inv.lt e)⟩
theorem Inv.own(I:Inv w aa ae hs ps st s)(e:st.get i=.own c)(hk:hs[i]? =some k):eA s.heap k (some (.ref (ps i).1))∧cW w s.heap (OO ae hs ps st) (ps i) c:=by
 have:=I.slot i k hk
 rw[e]at this
 exact this
theorem Inv.cell(I:Inv w aa ae hs ps st s)(e:st.get i=.own c):cW w s.heap (OO ae hs ps st) (ps i) c:=(I.ph e).elim fun k hk=>(I.own e hk).2
theorem oO.mv(a:oO w h O p k x)(f:∀o,h.get? k.addr=some o→h'.get? k.addr=some o)(g:∀c,x=.own c→∀b o,c.aU p b→h.get? b=some o→h'.get? b=some o)(m:Mv h h' O O'):oO w h' O' p k x:=by
 cases x with
 |no=>exact a.elim fun u a=>⟨u,a.move f⟩
 |val d=>exact a.elim fun v a=>⟨v,a.1.move f,a.2.mv m⟩
 |own c=>exact⟨a.1.move f,a.2.mv (g c rfl) m⟩
theorem Inv.kp(I:Inv w aa ae hs ps st s)(k:Kp s s'):Inv w aa ae hs ps st s' where
 len:=I.len
 nodup:=I.nodup
 stat:=fun b o e=>k.keep b o (I.stat b o e)
 bB:=fun b x=>(isSome_iff_exists.mp (I.bB b x)).elim fun o e=>isSome_of_eq_some (k.keep b o e)
 old:=I.old
 slot:=fun i j e=>(I.slot i j e).mv (fun o e=>k.keep _ o e) (fun _ _ b o _ e=>k.keep b o e) k.mv
 apart:=I.apart
theorem ez(h:x=some a)(h':x=none):False:=nomatch h.symm.trans h'
theorem isSome_none(h:x.isSome=true)(h':x=none):False:=by rw[h']at h;cases h
theorem none_of(h:∀a,x≠some a):x=none:=by
 cases x with
 |none=>rfl
 |some a=>exact absurd rfl (h a)
theorem Inv.pw{F:Addr→Prop}(I:Inv w aa ae hs ps st s)(k:Kp s s')(f:∀b,F b→s.heap.get? b=none∧(s'.heap.get? b).isSome=true):Inv w aa (fun b=>ae b∨F b) hs ps st s':=by
 have oo:∀{b},OO (fun b=>ae b∨F b) hs ps st b→OO ae hs ps st b∨F b:=fun x=>x.elim (fun x=>x.elim (fun x=>.inl (.inl x)) .inr) fun x=>.inl (.inr x)
 have m:Mv s.heap s'.heap (OO ae hs ps st) (OO (fun b=>ae b∨F b) hs ps st):=⟨fun b o e _=>k.keep b o e,fun b e n q=>(oo q).elim n fun q=>isSome_none e (f b q).1⟩
 exact
 {len:=I.len
  nodup:=I.nodup
  stat:=(I.kp k).stat
  bB:=fun b x=>(oo x).elim ((I.kp k).bB b) fun q=>(f b q).2
  old:=fun b x=>(oo x).elim (I.old b) fun q=>none_of fun o h=>ez (I.stat b o h) (f b q).1
  slot:=fun i j e=>(I.slot i j e).mv (fun o e=>k.keep _ o e) (fun _ _ b o _ e=>k.keep b o e) m
  apart:=fun i c b e o=>⟨fun q=>q.elim (I.apart i c b e o).1 fun q=>isSome_none (I.bB b (.inr (.inr ⟨i,c,e,o⟩))) (f b q).1,(I.apart i c b e o).2⟩}
theorem vJ:St.get (st.set i x) j=if i=j∧i<st.length then x else st.get j:=by
 unfold St.get
 rw[getD_eq_getElem?_getD,getD_eq_getElem?_getD,List.getElem?_set]
 by_cases h:i=j
 ·subst h
  by_cases hl:i<st.length
  ·simp[hl]
  ·simp[hl,getElem?_eq_none (le_of_not_lt hl)]
 ·simp[h]
theorem set_own{st:St}{i j:Nat}{x:Slot}{c:AC}{P:Prop}(h:St.get (st.set i x) j=.own c)(k1:i=j→x=.own c→P)(k2:(i=j→st.length≤i)→st.get j=.own c→P):P:=by
 rw[vJ]at h
 by_cases q:i=j∧i<st.length
 ·rw[if_pos q]at h;exact k1 q.1 h
 ·rw[if_neg q]at h;exact k2 (fun e=>le_of_not_lt fun l=>q ⟨e,l⟩) h
theorem cZ.set{i:Nat}{x:Slot}(hx:∀c,x≠.own c):cZ ps (st.set i x) st:=⟨length_set,fun j c' h=>set_own h (fun _ q=>absurd q (hx c')) fun _ q=>⟨c',q,fun _ x=>x⟩⟩
theorem Inv.freeze{i:Nat}(I:Inv w aa ae hs ps st s)(e:st.get i=.own c):
  Inv w aa ae hs ps (st.set i (.val c.av)) s∧cZ ps (st.set i (.val c.av)) st∧RV w s.heap (OO ae hs ps (st.set i (.val c.av))) (.ref (ps i).1) c.av:=by
 have hl:=Inv.lt e
 have L:cZ ps (st.set i (.val c.av)) st:=cZ.set fun _ q=>nomatch q
 have m:Mv s.heap s.heap (OO ae hs ps st) (OO ae hs ps (st.set i (.val c.av))):=Mv.less fun b=>L.OO
 have R:RV w s.heap (OO ae hs ps (st.set i (.val c.av))) (.ref (ps i).1) c.av:=(I.cell e).rv (fun b o x=>x.elim (I.apart i c b e o).1 fun x=>x.elim (I.apart i c b e o).2.1 fun x=>x.elim fun j x=>x.elim fun c' x=>
  set_own x.1 (fun _ q=>nomatch q) fun q z=>(I.apart i c b e o).2.2 j c' (fun q'=>absurd hl (Nat.not_lt.mpr (q q'.symm))) z x.2) m
 refine⟨{len:=length_set.trans I.len,nodup:=I.nodup,stat:=I.stat,bB:=fun b x=>I.bB b (L.OO x),old:=fun b x=>I.old b (L.OO x),slot:=fun j k hk=> ?_,apart:=fun j c' b x y=>set_own x (fun _ q=>nomatch q) fun _ x=>⟨(I.apart j c' b x y).1,(I.apart j c' b x y).2.1,fun l d gG z=>set_own z (fun _ q=>nomatch q) fun _ z=>(I.apart j c' b x y).2.2 l d gG z⟩},L,R⟩
 rw[vJ]
 by_cases h:i=j∧i<st.length
 ·rw[if_pos h]
  obtain⟨rfl,_⟩:=h
  exact⟨_,(I.own e hk).1,R⟩
 ·rw[if_neg h]
  exact(I.slot j k hk).mv (fun _ e=>e) (fun _ _ _ _ _ e=>e) m
def RR(w:World)(aa:Heap)(ae:Addr→Prop)(hs:List aI)(ps:Nat→Addr×Addr)(st:St)(s s':Shared)(v:Value):Res→Prop
 |.val d=>RV w s'.heap (OO ae hs ps st) v d
 |.fresh c=>∃p,v=.ref p.1∧(∀b,c.aU p b→s.heap.get? b=none)∧cW w s'.heap (fun b=>OO ae hs ps st b∨c.aU p b) p c∧Inv w aa (fun b=>ae b∨c.aU p b) hs ps st s'
 |.loc i=>∃c,st.get i=.own c∧v=.ref (ps i).1
structure EP (w:World) (aa:Heap) (ae:Addr→Prop) (hs:List aI) (ps:Nat→Addr×Addr) (st af:St) (s s':Shared):Prop where
 inv:Inv w aa ae hs ps af s'
 aF:cy (Own ps st) s s'
 bc:cZ ps af st
theorem EP.refl(I:Inv w aa ae hs ps st s):EP w aa ae hs ps st st s s:=⟨I,.refl,.refl⟩
theorem EP.trans(x:EP w aa ae hs ps st af s s')(y:EP w aa ae hs ps af pO s' ip):EP w aa ae hs ps st pO s ip:=
 ⟨y.inv,x.aF.trans y.aF fun b o=>.inl (x.bc.mem o),y.bc.trans x.bc⟩
theorem EP.kp(x:EP w aa ae hs ps st af s s')(k:Kp s' ip):EP w aa ae hs ps st af s ip:=
 ⟨x.inv.kp k,x.aF.trans (W':=fun _=>False) k.aF fun _ q=>q.elim,x.bc⟩
theorem EP.mv(x:EP w aa ae hs ps st af s s'):Mv s.heap s'.heap (OO ae hs ps st) (OO ae hs ps af):=
 ⟨fun b o e n=>x.aF.keep b o e fun q=>n (.inr (.inr q)),fun _ _ n q=>n (x.bc.OO q)⟩
structure QE (w:World) (aa:Heap) (ae:Addr→Prop) (hs:List aI) (ps:Nat→Addr×Addr) (st af:St) (s:Shared) (r:Res) (v:Value) (s':Shared):Prop where
 e:EP w aa ae hs ps st af s s'
 r:RR w aa ae hs ps af s s' v r
def RT(w:World)(ae:Addr→Prop)(hs:List aI)(ps:Nat→Addr×Addr)(st:St)(s:Shared)(v:Value):Res→Prop
 |.val d=>RV w s.heap (OO ae hs ps st) v d
 |.loc i=>v=.ref (ps i).1
 |.fresh _=>False
structure QC (w:World) (aa:Heap) (ae:Addr→Prop) (hs:List aI) (ps:Nat→Addr×Addr) (st af:St) (s:Shared) (r:Res) (v:Value) (s':Shared):Prop where
 e:EP w aa ae hs ps st af s s'
 r:RT w ae hs ps af s' v r
structure QF (w:World) (aa:Heap) (ae:Addr→Prop) (hs:List aI) (ps:Nat→Addr×Addr) (st af:St) (s:Shared) (d:AV) (v:Value) (s':Shared):Prop where
 e:EP w aa ae hs ps st af s s'
 r:RV w s'.heap (OO ae hs ps af) v d
theorem RT.move(t:RT w ae hs ps st s v r)(x:EP w aa ae hs ps st af s s'):RT w ae hs ps af s' v r:=by
 cases r with
 |val d=>exact bk.mv x.mv t
 |fresh c=>exact t
 |loc i=>exact t
theorem RT.look(t:RT w ae hs ps st s v r)(I:Inv w aa ae hs ps st s)(e:look st r=some d):RC w s.heap (OO ae hs ps st) v d:=by
 cases r with
 |val d'=>refine aC e ?_;exact .of t
 |fresh c=>exact t.elim
 |loc i=>
  have e:nX (st.get i)=some d:=e
  cases hc:st.get i with
  |own c=>rw[hc]at e;refine aC e ?_;exact(show v=_ from t)▸.cell (I.cell hc)
  |_=>rw[hc]at e;cases e
theorem Ck(x:EP w aa ae hs ps st af s s')(I:Inv w aa ae hs ps st s)(f:RR w aa ae hs ps af s s' v (.fresh c)):RV w s'.heap (OO ae hs ps af) v c.av:=
 f.elim fun p f=>f.1▸f.2.2.1.rv (fun b o q=>isSome_none (I.bB b (x.bc.OO q)) (f.2.1 b o)) (Mv.less fun b q=>.inl q)
theorem W4(z:QE w aa ae hs ps st af s r v s')(I:Inv w aa ae hs ps st s):QC w aa ae hs ps st af s (bJ r) v s':=by
 cases r with
 |val d=>exact⟨z.e,z.r⟩
 |fresh c=>exact⟨z.e,Ck z.e I z.r⟩
 |loc i=>exact⟨z.e,z.r.elim fun c h=>h.2⟩
theorem aaD(z:QE w aa ae hs ps st af s r v s')(I:Inv w aa ae hs ps st s)(e:Mine.freeze af r=some (d,pO)):QF w aa ae hs ps st pO s d v s':=by
 cases r with
 |val d'=>cases e;exact⟨z.e,z.r⟩
 |fresh c=>cases e;exact⟨z.e,Ck z.e I z.r⟩
 |loc i=>
  refine z.r.elim fun c' hc=> ?_
  have e:Dm i af (af.get i)=some (d,pO):=e
  rw[hc.1]at e
  cases e
  have f:=z.e.inv.freeze hc.1
  exact⟨⟨f.1,z.e.aF,f.2.1.trans z.e.bc⟩,hc.2▸f.2.2⟩
theorem rJ(x:EP w aa ae hs ps st af s s')(p:PO w (OO ae hs ps af) s' d v ip):QE w aa ae hs ps st af s (lL d) v ip:=by
 unfold PO at p
 revert p
 cases lL d with
 |val d'=>exact fun p=>⟨x.kp p.1,p.2⟩
 |fresh c=>exact fun p=>⟨x.kp p.1,p.2.elim fun q z=>⟨q,z.1,fun y o=>x.aF.gone y (z.2.1 y o),z.2.2,x.inv.pw p.1 fun y o=>⟨z.2.1 y o,z.2.2.ok o⟩⟩⟩
 |loc=>exact fun p=>p.elim
end
end
section
abbrev aG:Value→Shared→Prop:=fun _ _=>False
structure Rm (A:Around) (lv:Nat):Prop where
 hd:A.handled=none
 dp:A.depth+4*lv+4<recursionLimit
 un:A.units+40*lv+80<cLine
theorem Rm.in1(x:Rm A lv):A.units+40*lv+80<cLine:=x.un
structure ef (env:Env) (sc:Scope) (nm:List (Str×Nat)) (hs:List aI):Prop where
 scope:env.scope=sc
 kind:sc.kind=.function
 globals:env.globals=mainGlobals
 builtins:env.builtins=builtinsNs
 ph:∀x i,nm.lookup x=some i→(sc.names.lookup x=some .local∧hs[i]? =some (.loc env.locals x))∨(sc.names.lookup x=some .cell∧∃c,env.cells.lookup x=some c∧hs[i]? =some (.jY c))
structure QT (w:World) (aa:Heap) (ae:Addr→Prop) (hs:List aI) (ps:Nat→Addr×Addr) (st af:St) (s:Shared) {α:Type} (b:α) (c:α) (s':Shared):Prop where
 e:c=b
 z:EP w aa ae hs ps st af s s'
structure Fs (w:World) (aa:Heap) (ae:Addr→Prop) (hs:List aI) (ps:Nat→Addr×Addr) (st af:St) (s:Shared) (ds:List AV) (vs:List Value) (s':Shared):Prop where
 e:EP w aa ae hs ps st af s s'
 r:au w s'.heap (OO ae hs ps af) vs ds
noncomputable def oH(w:World)(ae:Addr→Prop)(hs:List aI)(ps:Nat→Addr×Addr)(st:St)(s:Shared):List Res→List Value→Prop
 |[]=>fun vs=>vs=[]
 |r::rs=>cY (fun v=>RT w ae hs ps st s v r) (oH w ae hs ps st s rs)
structure Q0 (w:World) (aa:Heap) (ae:Addr→Prop) (hs:List aI) (ps:Nat→Addr×Addr) (st af:St) (s:Shared) (rs:List Res) (vs:List Value) (s':Shared):Prop where
 e:EP w aa ae hs ps st af s s'
 r:oH w ae hs ps af s' rs vs
structure IS (w:World) (aa:Heap) (lv:Nat) (sc:Scope) (nm:List (Str×Nat)) (n:Nat) (A:Around) (env:Env) (ae:Addr→Prop) (hs:List aI) (ps:Nat→Addr×Addr) (st:St) (s:Shared):Prop where
 R:Rm A lv
 K:ef env sc nm hs
 I:Inv w aa ae hs ps st s
 L:st.length=n
section
variable (w:World) (aa:Heap) (T:Tab) (S:cf) (lv:Nat) (sc:Scope) (nm:List (Str×Nat)) (n:Nat)
def SE(me:ME)(e:Expr):Prop:=
 ∀{A} {env} {ae} {hs} {ps} {st} {s} {r} {af},IS w aa lv sc nm n A env ae hs ps st s→ev T S me st=some (r,af)→wpAny (ah w) A (eval e env) (QE w aa ae hs ps st af s r) aG s
def Q2(me:ME)(e:Expr):Prop:=
 ∀{A} {env} {ae} {hs} {ps} {st} {s} {r} {af},IS w aa lv sc nm n A env ae hs ps st s→ju (ev T S me st)=some (r,af)→wpAny (ah w) A (eval e env) (QC w aa ae hs ps st af s r) aG s
def Q3(me:ME)(e:Expr):Prop:=
 ∀{A} {env} {ae} {hs} {ps} {st} {s} {d} {af},IS w aa lv sc nm n A env ae hs ps st s→iH (ev T S me st)=some (d,af)→wpAny (ah w) A (eval e env) (QF w aa ae hs ps st af s d) aG s
def ST(me:ME)(e:Expr):Prop:=
 ∀{A} {env} {ae} {hs} {ps} {st} {s} {b} {af},IS w aa lv sc nm n A env ae hs ps st s→eK (ev T S me st)=some (b,af)→wpAny (ah w) A (isTrue e env (eval e env)) (QT w aa ae hs ps st af s b) aG s
def mi(me:aR)(e:List Expr):Prop:=
 ∀{A} {env} {ae} {hs} {ps} {st} {s} {ds} {af} (pos),IS w aa lv sc nm n A env ae hs ps st s→mu T S me st=some (ds,af)→wpAny (ah w) A (spliced (backTo pos (starEach e env))) (Fs w aa ae hs ps st af s ds) aG s
def oM(me:aR)(e:List Expr):Prop:=
 ∀{A} {env} {ae} {hs} {ps} {st} {s} {rs} {af} (pos),IS w aa lv sc nm n A env ae hs ps st s→tN T S me st=some (rs,af)→wpAny (ah w) A (spliced (backTo pos (starEach e env))) (Q0 w aa ae hs ps st af s rs) aG s
def sS(k:Bool)(me:aR)(e:List Expr):Prop:=
 ∀{A} {env} {ae} {hs} {ps} {st} {s} {b} {af},IS w aa lv sc nm n A env ae hs ps st s→tO T S k me st=some (b,af)→wpAny (ah w) A (allTrue (if k then .And else .Or) e env) (QT w aa ae hs ps st af s b) aG s
def qc(k:Bool)(me:aR)(e:List Expr):Prop:=
 ∀{A} {env} {ae} {hs} {ps} {st} {s} {b} {af} (pos),IS w aa lv sc nm n A env ae hs ps st s→tO T S k me st=some (b,af)→wpAny (ah w) A (eval (.BoolOp (if k then .And else .Or) e pos) env) (QT w aa ae hs ps st af s (Value.bool b)) aG s
end
section
theorem wm(h:wpAny M A t Q aG s)(k:∀a s,Q a s→Q' a s):wpAny M A t Q' aG s:=wpAny_mono h k fun _ _ x=>x
section
variable {A:Around} {env:Env} {ae:Addr→Prop} {hs:List aI} {ps:Nat→Addr×Addr} {st:St} {s:Shared} {af:St} {s':Shared}
theorem EP.ln(x:EP w aa ae hs ps st af s s')(L:st.length=n):af.length=n:=x.bc.len.trans L
theorem IS.next(x:IS w aa lv sc nm n A env ae hs ps st s)(z:EP w aa ae hs ps st af s s'):IS w aa lv sc nm n A env ae hs ps af s':=⟨x.R,x.K,z.inv,z.ln x.L⟩
theorem IS.refl(x:IS w aa lv sc nm n A env ae hs ps st s):EP w aa ae hs ps st st s s:=.refl x.I
theorem oH.move(x:EP w aa ae hs ps st af s s'):∀{rs vs},oH w ae hs ps st s rs vs→oH w ae hs ps af s' rs vs:=fun {rs}=>by
 induction rs with
 |nil=>exact fun {vs} r=>r
 |cons r rs ih=>exact fun {vs} z=>z.map (fun _ a=>a.move x) (fun _ r=>ih r)
theorem oH.look(I:Inv w aa ae hs ps st s):∀{rs vs ds},oH w ae hs ps st s rs vs→jc st rs=some ds→ei w s.heap (OO ae hs ps st) vs ds:=fun {rs}=>by
 induction rs with
 |nil=>intro vs ds r e;refine aC e ?_;exact r
 |cons r rs ih=>
  intro vs ds z e
  cases z with|mk a z=>
  refine aK e fun d h1 e=>aK e fun g8 h2 e=> ?_
  refine aC e ?_
  exact .mk (a.look I h1) (ih z h2)
theorem QT.back(z:EP w aa ae hs ps st af s s')(x:QT w aa ae hs ps af bU s' b c s2):QT w aa ae hs ps st bU s b c s2:=⟨x.e,z.trans x.z⟩
theorem QE.back{r}{v}(z:EP w aa ae hs ps st af s s')(x:QE w aa ae hs ps af bU s' r v s2):QE w aa ae hs ps st bU s r v s2:=⟨z.trans x.e,by
 cases r with
 |val d=>exact x.r
 |loc i=>exact x.r
 |fresh c=>exact x.r.elim fun p y=>⟨p,y.1,fun b o=>z.aF.gone b (y.2.1 b o),y.2.2⟩⟩
theorem QT.be(x:QT w aa ae hs ps st af s b c s'):QT w aa ae hs ps st af s (Value.bool b) (.bool c) s':=⟨congrArg _ x.e,x.z⟩
theorem QT.qe(x:QT w aa ae hs ps st af s (Value.bool b) v s'):QE w aa ae hs ps st af s (.val (.bool b)) v s':=⟨x.z,x.e⟩
end
theorem SE.c(h:SE w aa T S lv sc nm n me e):Q2 w aa T S lv sc nm n me e:=by
 intro A env ae hs ps st s r af x ao
 refine aN ao fun r0 pP h1 e=> ?_
 refine bY e ?_
 exact wm (h x h1) fun v s' z=>W4 z x.I
theorem SE.f(h:SE w aa T S lv sc nm n me e):Q3 w aa T S lv sc nm n me e:=by
 intro A env ae hs ps st s r af x ao
 exact aN ao fun r0 pP h1 e=>wm (h x h1) fun v s' z=>aaD z x.I e
theorem sC{x:Option (Res×St)}{b:Bool}{st:St}(e:eK x=some (b,st)):x=some (.val (.bool b),st):=aN e fun r af h e=>by
 cases r with
 |val d=>revert h;refine xI (C:=fun d=>x=some (.val d,af)→_) e fun b e h=> ?_;cases e;exact h
 |_=>exact ba e
theorem aci{x:Option (Res×St)}{b:Int}{st:St}(e:mI x=some (b,st)):x=some (.val (.int b),st):=aN e fun r af h e=>by
 cases r with
 |val d=>revert h;refine nG (C:=fun d=>x=some (.val d,af)→_) e fun b e h=> ?_;cases e;exact h
 |_=>exact ba e
theorem SE.i(h:SE w aa T S lv sc nm n me e):∀{A:Around} {env:Env} {ae:Addr→Prop} {hs:List aI} {ps} {st} {s:Shared} {i:Int} {af:St},IS w aa lv sc nm n A env ae hs ps st s→mI (ev T S me st)=some (i,af)→wpAny (ah w) A (eval e env) (QF w aa ae hs ps st af s (.int i)) aG s:=fun x ao=>wm (h x (aci ao)) fun v s' z=>⟨z.e,z.r⟩
theorem SE.o(h:SE w aa T S lv sc nm n me e):∀{A:Around} {env:Env} {ae:Addr→Prop} {hs:List aI} {ps} {st} {s:Shared} {i:Bool} {af:St},IS w aa lv sc nm n A env ae hs ps st s→eK (ev T S me st)=some (i,af)→wpAny (ah w) A (eval e env) (QT w aa ae hs ps st af s (Value.bool i)) aG s:=fun x ao=>wm (h x (sC ao)) fun v s' z=>⟨z.r,z.e⟩
theorem aj4(ha:SE w aa T S lv sc nm n a ea)(hb:SE w aa T S lv sc nm n b eb):SE w aa T S lv sc nm n (.bin o a b) (.BinOp ea (DY o) eb pos):=by
 intro A env ae hs ps st s r af X ao
 refine aN ao fun ra aj h1 e=>aN e fun rb bU h2 e=>aK e fun x h3 e=>aK e fun y h4 e=>aK e fun d h5 e=> ?_
 refine bY e ?_
 exact wpAny_BinOp (wm (ha.c X h1) fun v s1 z1=>wm (hb.c (X.next z1.e) h2) fun u s2 z2=>wm (Uj h5 z2.e.inv.bB ((z1.r.move z2.e).look z2.e.inv h3) (z2.r.look z2.e.inv h4)) fun z s3 z3=>rJ (z1.e.trans z2.e) z3)
theorem akf:SE w aa T S lv sc nm n (.con (.int i)) (.Constant (.int i) k pos):=by
 intro A env ae hs ps st s r af X ao
 refine bY ao ?_
 exact wpAny_Constant_int ⟨X.refl.kp Kp.tok,kG.mk _⟩
theorem akd:SE w aa T S lv sc nm n (.con (.bool i)) (.Constant (.bool i) k pos):=by
 intro A env ae hs ps st s r af X ao
 refine bY ao ?_
 exact wpAny_Constant_bool ⟨X.refl,rfl⟩
theorem akg:SE w aa T S lv sc nm n (.con .none) (.Constant .none k pos):=by
 intro A env ae hs ps st s r af X ao
 refine bY ao ?_
 exact wpAny_Constant_none ⟨X.refl,rfl⟩
theorem akh(h:x.length≤16777216):SE w aa T S lv sc nm n (.con (.str x)) (.Constant (.str x) k pos):=by
 intro A env ae hs ps st s r af X ao
 refine bY ao ?_
 exact wpAny_Constant_str ⟨X.refl.kp Kp.tok,sN.mk _ h⟩
theorem ake(h:x.length≤16777216):SE w aa T S lv sc nm n (.con (.bytes x)) (.Constant (.bytes x) k pos):=by
 intro A env ae hs ps st s r af X ao
 refine bY ao ?_
 show wpAny _ _ (mkTextBytes x.toArray) _ _ _
 exact fun _ _ _=>⟨X.refl.kp Kp.tok,sM.mk _ h⟩
theorem akp(ha:SE w aa T S lv sc nm n a ea):SE w aa T S lv sc nm n (.neg a) (.UnaryOp .USub ea pos):=by
 intro A env ae hs ps st s r af X ao
 refine aN ao fun i aj h1 e=> ?_
 refine bY e ?_
 refine wpAny_UnaryOp (wm (ha.i X h1) fun v s1 z1=> ?_)
 cases z1 with|mk z1 r=>cases r with|mk t=>exact neg_int ⟨z1.kp Kp.tok,kG.mk _⟩
theorem akq(ha:SE w aa T S lv sc nm n a ea):SE w aa T S lv sc nm n (.nt a) (.UnaryOp .Not ea pos):=by
 intro A env ae hs ps st s r af X ao
 refine aN ao fun b aj h1 e=> ?_
 refine bY e ?_
 exact wpAny_UnaryOp (wm (ha.o X h1) fun v s1 z1=>z1.e▸not_value (wpAny_truthy_bool ⟨z1.z,rfl⟩))
theorem alG(ha:ST w aa T S lv sc nm n a ea):ST w aa T S lv sc nm n (.nt a) (.UnaryOp .Not ea pos):=by
 intro A env ae hs ps st s b af X ao
 refine aN (sC ao) fun b aj h1 e=> ?_
 cases e
 exact wpAny_isTrue_Not (wm (ha X h1) fun c s1 z1=>⟨by rw[z1.e],z1.z⟩)
theorem SE.t(h:SE w aa T S lv sc nm n me e)(he:∀env whole,isTrue e env whole=(do let v ←whole;standAt e.pos;holding [v] (truthy v))):ST w aa T S lv sc nm n me e:=by
 intro A env ae hs ps st s b af X ao
 exact wpAny_isTrue_value (wm (h.o X ao) fun v s1 z1=>z1.e▸wpAny_truthy_bool ⟨rfl,z1.z⟩) (he _ _)
theorem akm(hc:ST w aa T S lv sc nm n c ec)(ha:SE w aa T S lv sc nm n a ea)(hb:SE w aa T S lv sc nm n b eb):SE w aa T S lv sc nm n (.dj c a b) (.IfExp ec ea eb pos):=by
 intro A env ae hs ps st s r af X ao
 refine aN ao fun d aj h1 e=> ?_
 refine wpAny_IfExp (wm (hc X h1) fun t s1 z1=> ?_)
 rw[z1.e]
 cases d with
 |true=>exact wm (ha (X.next z1.z) e) fun v s2 z2=>z2.back z1.z
 |false=>exact wm (hb (X.next z1.z) e) fun v s2 z2=>z2.back z1.z
theorem alF{c:ME}(hc:ST w aa T S lv sc nm n c ec)(ha:ST w aa T S lv sc nm n a ea)(hb:ST w aa T S lv sc nm n b eb):ST w aa T S lv sc nm n (.dj c a b) (.IfExp ec ea eb pos):=by
 intro A env ae hs ps st s r af X ao
 refine aN (sC ao) fun d aj h1 e=> ?_
 rw[arm_isTrue_IfExp]
 refine wpAny_bind (wm (hc X h1) fun t s1 z1=> ?_)
 rw[z1.e]
 cases d with
 |true=>exact wm (ha (X.next z1.z) (by rw[show ev T S a aj=_ from e];rfl)) fun v s2 z2=>z2.back z1.z
 |false=>exact wm (hb (X.next z1.z) (by rw[show ev T S b aj=_ from e];rfl)) fun v s2 z2=>z2.back z1.z
theorem akN:mi w aa T S lv sc nm n .nil []:=by
 intro A env ae hs ps st s ds af pos X ao
 refine bY ao ?_
 exact wpAny_items_nil ⟨X.refl,rfl⟩
noncomputable def notStar(e:Expr):Bool:= !beq e.ctorIdx 22
theorem mZ{env:Env}(h:notStar e=true):starEach (e::r) env=(false,eval e env)::starEach r env:=by
 cases e<;>first|rfl|cases h
theorem akM(hn:notStar ea=true)(ha:SE w aa T S lv sc nm n a ea)(hr:mi w aa T S lv sc nm n r er):mi w aa T S lv sc nm n (.cons a r) (ea::er):=by
 intro A env ae hs ps st s ds af pos X ao
 refine aN ao fun d aj h1 e=>aN e fun g8 bU h2 e=> ?_
 refine bY e ?_
 exact wpAny_items_cons (wm (ha.f X h1) fun v s1 z1=>wm (hr pos (X.next z1.e) h2) fun vs s2 z2=>⟨z1.e.trans z2.e,.mk (bk.mv z2.e.mv z1.r) z2.r⟩) (mZ hn)
theorem akL:oM w aa T S lv sc nm n .nil []:=by
 intro A env ae hs ps st s ds af pos X ao
 refine bY ao ?_
 exact wpAny_items_nil ⟨X.refl,rfl⟩
theorem akK(hn:notStar ea=true)(ha:SE w aa T S lv sc nm n a ea)(hr:oM w aa T S lv sc nm n r er):oM w aa T S lv sc nm n (.cons a r) (ea::er):=by
 intro A env ae hs ps st s ds af pos X ao
 refine aN ao fun d aj h1 e=>aN e fun g8 bU h2 e=> ?_
 refine bY e ?_
 exact wpAny_items_cons (wm (ha.c X h1) fun v s1 z1=>wm (hr pos (X.next z1.e) h2) fun vs s2 z2=>⟨z1.e.trans z2.e,.mk (z1.r.move z2.e) z2.r⟩) (mZ hn)
noncomputable def aR.len(l:aR):Nat:=aR.rec (motive_1:=fun _=>Nat) (motive_2:=fun _=>Nat) (motive_3:=fun _=>Nat) (fun _=>0) (fun _ _=>0) (fun _=>0) (fun _ _ _ _ _=>0) (fun _ _=>0) (fun _ _=>0) (fun _ _ _ _ _=>0) (fun _ _ _ _ _ _ _ _=>0) (fun _ _ _=>0) (fun _ _ _ _ _ _=>0) (fun _ _=>0) (fun _ _=>0) (fun _ _=>0) (fun _ _ _=>0) (fun _ _ _ _=>0) (fun _ _ _ _ _ _=>0) (fun _ _ _ _ _ _ _ _=>0) (fun _ _ _ _=>0) (fun _ _ _ _ _=>0) (fun _ _ _ _ _=>0) (fun _ _ _=>0) (fun _ _ _ _ _=>0)
 0 (fun _ _ _ k=>k+1) (fun _ k=>k+1) 0 (fun _ _=>0) l
theorem aR.ind{P:aR→Prop}(h0:P .nil)(h1:∀a r,P r→P (.cons a r))(h2:∀r,P r→P (.new r))(l:aR):P l:=aR.rec (motive_1:=fun _=>True) (motive_2:=P) (motive_3:=fun _=>True) (fun _=>trivial) (fun _ _=>trivial) (fun _=>trivial) (fun _ _ _ _ _=>trivial) (fun _ _=>trivial) (fun _ _=>trivial) (fun _ _ _ _ _=>trivial) (fun _ _ _ _ _ _ _ _=>trivial) (fun _ _ _=>trivial) (fun _ _ _ _ _ _=>trivial) (fun _ _=>trivial) (fun _ _=>trivial) (fun _ _=>trivial) (fun _ _ _=>trivial) (fun _ _ _ _=>trivial) (fun _ _ _ _ _ _=>trivial) (fun _ _ _ _ _ _ _ _=>trivial) (fun _ _ _ _=>trivial) (fun _ _ _ _ _=>trivial) (fun _ _ _ _ _=>trivial) (fun _ _ _=>trivial) (fun _ _ _ _ _=>trivial)
 h0 (fun a r _=>h1 a r) h2 trivial (fun _ _=>trivial) l
theorem I1{S:cf}{me:aR}:∀{st af} {ds:List AV},mu T S me st=some (ds,af)→ds.length=me.len:=by
 induction me using aR.ind with
 |h0=>intro st af ds h;refine bY h ?_;rfl
 |h1 a r ih=>intro st af ds h;refine aN h fun d aj h1 e=>aN e fun g8 bU h2 e=> ?_;refine bY e ?_;exact congrArg Nat.succ (ih h2)
 |h2 r ih=>intro st af ds h;exact ba h
theorem akt(hl:mi w aa T S lv sc nm n l es)(hn:l.len≤1000):SE w aa T S lv sc nm n (.tup l) (.Tuple es k pos):=by
 intro A env ae hs ps st s r af X ao
 refine aN ao fun ds aj h1 e=> ?_
 refine bY e ?_
 refine wpAny_Tuple (wm (hl pos X h1) fun vs s1 z1=> ?_)
 have hz:vs.length≤1000:=by rw[z1.r.length,I1 h1];exact hn
 have:=Ed (t:=s1.toks) z1.e.inv.bB z1.r (by omega)
 exact⟨by rw[sizeLine_eq];omega,z1.e.kp this.1,this.2⟩
theorem akn(hl:mi w aa T S lv sc nm n l es)(hn:l.len≤1000):SE w aa T S lv sc nm n (.lst l) (.List es pos):=by
 intro A env ae hs ps st s r af X ao
 refine aN ao fun ds aj h1 e=> ?_
 refine bY e ?_
 refine wpAny_List (wm (hl pos X h1) fun vs s1 z1=> ?_)
 have hz:vs.length≤1000:=by rw[z1.r.length,I1 h1];exact hn
 exact⟨by rw[sizeLine_eq];omega,rJ (d:=.lst ds) z1.e (xD (t:=s1.toks) z1.r (by omega))⟩
theorem DA{env:Env}(K:ef env sc nm hs)(hx:nm.lookup x=some i)(hv:∀k,hs[i]? =some k→eA s.heap k (some v))(h:Q v s):
  wpAny (ah w) A (loadName env x) Q aG s:=by
 have hk:env.scope.kind=.function:=by rw[K.scope];exact K.kind
 exact(K.ph x i hx).elim (fun a=>(hv _ a.2).elim fun m e=>wpAny_loadName_local hk (by show env.scope.names.lookup x=_;rw[K.scope];exact a.1) e.1 e.2 h)
  fun a=>a.2.elim fun c b=>wpAny_loadName_cell hk (by show env.scope.names.lookup x=_;rw[K.scope];exact a.1) b.1 (hv _ b.2) h
theorem aaW{st:St}{i:Nat}(e:st.get i=x)(h:x≠.no):i<st.length:=Nat.lt_of_not_le fun q=>h (e.symm.trans (Cn q))
theorem OT{i:Nat}(hx:nm.lookup x=some i)(hd:(x==("__debug__":Str))=false):SE w aa T S lv sc nm n (.var i) (.Name x pos):=by
 intro A env ae hs ps st s r af X ao
 have ao:yu i st (st.get i)=some (r,af):=ao
 refine wpAny_Name ?_ hd
 have I:=X.I
 cases hg:st.get i with
 |no=>rw[hg]at ao;cases ao
 |val d=>
  rw[hg]at ao
  refine bY ao ?_
  have hi:i<hs.length:=I.len▸aaW hg fun q=>nomatch q
  have:=I.slot i _ (getElem?_eq_getElem hi)
  rw[hg]at this
  exact this.elim fun v z=>DA X.K hx (fun k hk=>by rw[getElem?_eq_getElem hi]at hk;cases hk;exact z.1) ⟨X.refl,z.2⟩
 |own c=>
  rw[hg]at ao
  refine bY ao ?_
  exact DA X.K hx (fun k' CJ=>(I.own hg CJ).1) ⟨X.refl,c,hg,rfl⟩
def A3(w:World)(aa:Heap)(x:Str)(d:AV):Prop:=∃mg v,aa.Ns mainGlobals mg∧mg x=some v∧RV w aa (fun _=>False) v d
theorem Inv.static{ae}{hs}{ps}{st}{s:Shared}(I:Inv w aa ae hs ps st s):Mv aa s.heap (fun _=>False) (OO ae hs ps st):=
 ⟨fun b o e _=>I.stat b o e,fun b e _ q=>isSome_none e (I.old b q)⟩
theorem akl(hk:sc.names.lookup x=some .globalImplicit)(hd:(x==("__debug__":Str))=false)(hg:A3 w aa x d):SE w aa T S lv sc nm n (.glob x d) (.Name x pos):=by
 intro A env ae hs ps st s r af X ao
 refine bY ao ?_
 refine hg.elim fun mg h=>h.elim fun v h=> ?_
 refine Name_function_global (by rw[X.K.scope];exact X.K.kind) (by show env.scope.names.lookup x=_;rw[X.K.scope];exact hk) (loadGlobal_global (mg:=mg) ?_ h.2.1 ⟨X.refl,bk.mv X.I.static h.2.2⟩) hd
 rw[X.K.globals]
 exact h.1.keeps X.I.stat
theorem IS.un{A:Around}{env}{ae}{hs}{st}{s}(X:IS w aa lv sc nm n A env ae hs ps st s):A.units+20<cLine:=lt_of_le_of_lt (add_le_add (le_add_right ..) (by decide)) X.R.un
theorem Il{o:CO}{A:Around}{env:Env}{ae:Addr→Prop}{hs:List aI}{ps:Nat→Addr×Addr}{st}{s}{r:Res}{af:St}(ha:SE w aa T S lv sc nm n a ea)(hb:SE w aa T S lv sc nm n b eb)(X:IS w aa lv sc nm n A env ae hs ps st s)(ao:ev T S (.cmp o a b) st=some (r,af)):
  ∃d,r=.val (.bool d)∧wpAny (ah w) A (eval ea env) (fun v s1=>wpAny (ah w) A (eval eb env) (fun u s2=>wpAny (ah w) A (compareOp (dK o) v u) (QT w aa ae hs ps st af s (Value.bool d)) aG s2) aG s1) aG s:=by
 refine aN ao fun ra aj h1 e=>aN e fun rb bU h2 e=>aK e fun x h3 e=>aK e fun y h4 e=>aK e fun d h5 e=> ?_
 refine bY e ?_
 exact⟨d,rfl,wm (ha.c X h1) fun v s1 z1=>wm (hb.c (X.next z1.e) h2) fun u s2 z2=>wm (Bv h5 ((z1.r.move z2.e).look z2.e.inv h3) (z2.r.look z2.e.inv h4) X.un) fun z s3 z3=>⟨z3.1,(z1.e.trans z2.e).kp z3.2⟩⟩
theorem aka(ha:SE w aa T S lv sc nm n a ea)(hb:SE w aa T S lv sc nm n b eb)(hm:behindInMarks (dK o) eb=false):SE w aa T S lv sc nm n (.cmp o a b) (.Compare ea [dK o] [eb] pos):=by
 intro A env ae hs ps st s r af X ao
 exact(Il ha hb X ao).elim fun d h=>h.1▸wpAny_Compare1 (wm h.2 fun v s1 z1=>wm z1 fun u s2 z2=>wm z2 fun z s3 z3=>z3.qe) hm
theorem alD{o:CO}(ha:SE w aa T S lv sc nm n a ea)(hb:SE w aa T S lv sc nm n b eb)(hm:behindInMarks (dK o) eb=false):ST w aa T S lv sc nm n (.cmp o a b) (.Compare ea [dK o] [eb] pos):=by
 intro A env ae hs ps st s b' af X ao
 refine(Il ha hb X (sC ao)).elim fun d h=> ?_
 cases h.1
 exact wpAny_isTrue_Compare1 (wm h.2 fun v s1 z1=>wm z1 fun u s2 z2=>wm z2 fun z s3 z3=>z3.e▸wpAny_truthy_bool ⟨rfl,z3.z⟩) hm
def Fi(w:World)(aa:Heap)(A:Around)(env:Env)(ae:Addr→Prop)(hs:List aI)(ps:Nat→Addr×Addr)(o p:CO)(ea eb ec:Expr)(st af:St)(s:Shared)(d:Bool):Prop:=
 wpAny (ah w) A (eval ea env) (fun v s1=>wpAny (ah w) A (eval eb env) (fun u s2=>wpAny (ah w) A (compareOp (dK o) v u) (fun z s3=>∃q,z=.bool q∧
   (q=true→wpAny (ah w) A (eval ec env) (fun t s4=>wpAny (ah w) A (compareOp (dK p) u t) (QT w aa ae hs ps st af s (Value.bool d)) aG s4) aG s3)∧(q=false→QT w aa ae hs ps st af s d false s3)) aG s2) aG s1) aG s
theorem Ic{o p:CO}{c:ME}(ha:SE w aa T S lv sc nm n a ea)(hb:SE w aa T S lv sc nm n b eb)(hc:SE w aa T S lv sc nm n c ec)
  {A:Around} {env:Env} {ae:Addr→Prop} {hs:List aI} {ps:Nat→Addr×Addr} {st} {s} {r:Res} {af:St} (X:IS w aa lv sc nm n A env ae hs ps st s)
  (ao:ev T S (.gb o p a b c) st=some (r,af)):∃d,r=.val (.bool d)∧Fi w aa A env ae hs ps o p ea eb ec st af s d:=by
 refine aN ao fun x aj h1 e=>aN e fun y bU h2 e=>aK e fun q h3 e=> ?_
 have go:∀{d:Bool},(∀u s2 s3,EP w aa ae hs ps st bU s s2→RV w s2.heap (OO ae hs ps bU) u (.int y)→Kp s2 s3→(q=true→wpAny (ah w) A (eval ec env) (fun t s4=>wpAny (ah w) A (compareOp (dK p) u t) (QT w aa ae hs ps st af s (Value.bool d)) aG s4) aG s3)∧(q=false→QT w aa ae hs ps st af s d false s3))→Fi w aa A env ae hs ps o p ea eb ec st af s d:=fun {d} k=>
  wm (ha.i X h1) fun v s1 z1=>wm (hb.i (X.next z1.e) h2) fun u s2 z2=>wm (Bv (E:=aG) h3 (.of (bk.mv z2.e.mv z1.r)) (.of z2.r) X.un) fun z s3 z3=>⟨q,z3.1,k u s2 s3 (z1.e.trans z2.e) z2.r z3.2⟩
 cases q with
 |false=>
  cases e
  exact⟨false,rfl,go fun u s2 s3 z k kp=>⟨(fun q=>nomatch q),fun _=>⟨rfl,z.kp kp⟩⟩⟩
 |true=>
  refine aN e fun t pQ h4 e=>aK e fun d h5 e=> ?_
  cases e
  exact⟨d,rfl,go fun u s2 s3 z k kp=>⟨fun _=>wm (hc.i (X.next (z.kp kp)) h4) fun t s4 z4=>wm (Bv h5 (.of (bk.mv z4.e.mv (bk.mv kp.mv k))) (.of z4.r) X.un) fun z5 s5 y5=>⟨y5.1,((z.kp kp).trans z4.e).kp y5.2⟩,(fun q=>nomatch q)⟩⟩
theorem akb(ha:SE w aa T S lv sc nm n a ea)(hb:SE w aa T S lv sc nm n b eb)(hc:SE w aa T S lv sc nm n c ec)(hm:lastMarks [dK o,dK p] [eb,ec]=false):
  SE w aa T S lv sc nm n (.gb o p a b c) (.Compare ea [dK o,dK p] [eb,ec] pos):=by
 intro A env ae hs ps st s r af X ao
 refine(Ic ha hb hc X ao).elim fun d h=> ?_
 rw[h.1]
 refine Compare_chain (wm h.2 fun v s1 h1=>chain_link (wm h1 fun u s2 h2=>wm h2 fun z s3 h3=>h3.elim fun q h3=> ?_)) hm
 rw[h3.1]
 refine wpAny_truthy_bool ?_
 cases q with
 |false=>
  have k:=h3.2.2 rfl
  obtain rfl:=k.e
  exact⟨k.z,rfl⟩
 |true=>exact chain_last (wm (h3.2.1 rfl) fun t s4 h4=>wm h4 fun z s5 h5=>h5.qe)
theorem alE{o p:CO}{c:ME}(ha:SE w aa T S lv sc nm n a ea)(hb:SE w aa T S lv sc nm n b eb)(hc:SE w aa T S lv sc nm n c ec)(hm:lastMarks [dK o,dK p] [eb,ec]=false):
  ST w aa T S lv sc nm n (.gb o p a b c) (.Compare ea [dK o,dK p] [eb,ec] pos):=by
 intro A env ae hs ps st s b' af X ao
 refine(Ic ha hb hc X (sC ao)).elim fun d h=> ?_
 cases h.1
 refine isTrue_chain (wm h.2 fun v s1 h1=>test_link (wm h1 fun u s2 h2=>wm h2 fun z s3 h3=>h3.elim fun q h3=> ?_)) hm
 rw[h3.1]
 refine wpAny_truthy_bool ?_
 cases q with
 |false=>exact h3.2.2 rfl
 |true=>exact test_last (wm (h3.2.1 rfl) fun t s4 h4=>wm h4 fun z s5 h5=>h5.e▸wpAny_truthy_bool ⟨rfl,h5.z⟩)
theorem set_nil:sS w aa T S lv sc nm n k .nil []:=by
 intro A env ae hs ps st s b af X ao
 refine bY ao ?_
 cases k
 ·exact wpAny_allTrue_Or_nil ⟨rfl,X.refl⟩
 ·exact wpAny_allTrue_And_nil ⟨rfl,X.refl⟩
theorem akQ(ha:ST w aa T S lv sc nm n a ea)(hr:sS w aa T S lv sc nm n k r er):sS w aa T S lv sc nm n k (.cons a r) (ea::er):=by
 intro A env ae hs ps st s b af X ao
 refine aN ao fun c aj h1 e=> ?_
 have go:∀t s1,QT w aa ae hs ps st aj s c t s1→(c=k→wpAny (ah w) A (allTrue (if k then .And else .Or) er env) (QT w aa ae hs ps st af s b) aG s1)∧(c= !k→QT w aa ae hs ps st af s b c s1):=fun t s1 z1=>
  ⟨fun q=>wm (hr (X.next z1.z) (by rw[q]at e;revert e;cases k<;>exact id)) fun c s2 z2=>z2.back z1.z,fun q=>by
   have:(some (c,aj):Option (Bool×St))=some (b,af):=by rw[q]at e ⊢;revert e;cases k<;>exact id
   cases this;exact⟨rfl,z1.z⟩⟩
 cases k with
 |true=>
  refine wpAny_allTrue_And_cons (wm (ha X h1) fun q s1 z1=> ?_)
  rw[z1.e]
  cases c with
  |true=>exact(go q s1 z1).1 rfl
  |false=>exact(go q s1 z1).2 rfl
 |false=>
  refine wpAny_allTrue_Or_cons (wm (ha X h1) fun q s1 z1=> ?_)
  rw[z1.e]
  cases c with
  |false=>exact(go q s1 z1).1 rfl
  |true=>exact(go q s1 z1).2 rfl
theorem aky(ha:SE w aa T S lv sc nm n a ea):qc w aa T S lv sc nm n k (.cons a .nil) [ea]:=by
 intro A env ae hs ps st s b af pos X ao
 refine aN ao fun c aj h1 e=> ?_
 have:(some (c,aj):Option (Bool×St))=some (b,af):=by revert e;cases k<;>cases c<;>exact id
 cases this
 exact BoolOp_one (ha.o X h1)
theorem OU(ha:SE w aa T S lv sc nm n a ea)(hr:qc w aa T S lv sc nm n k r (eb::er)):qc w aa T S lv sc nm n k (.cons a r) (ea::eb::er):=by
 intro A env ae hs ps st s d af pos X ao
 refine aN ao fun c aj h1 e=> ?_
 have go:∀v s1,QT w aa ae hs ps st aj s (Value.bool c) v s1→(c=k→wpAny (ah w) A (eval (.BoolOp (if k then .And else .Or) (eb::er) pos) env) (QT w aa ae hs ps st af s (Value.bool d)) aG s1)∧(c= !k→QT w aa ae hs ps st af s (Value.bool d) (.bool c) s1):=fun t s1 z1=>
  ⟨fun q=>wm (hr pos (X.next z1.z) (by rw[q]at e;revert e;cases k<;>exact id)) fun c s2 z2=>z2.back z1.z,fun q=>by
   have:(some (c,aj):Option (Bool×St))=some (d,af):=by rw[q]at e ⊢;revert e;cases k<;>exact id
   cases this;exact⟨rfl,z1.z⟩⟩
 cases k with
 |true=>
  refine BoolOp_and (wm (ha.o X h1) fun v s1 z1=> ?_)
  rw[z1.e]
  refine wpAny_truthy_bool ?_
  cases c with
  |true=>exact(go v s1 z1).1 rfl
  |false=>exact(go v s1 z1).2 rfl
 |false=>
  refine BoolOp_or (wm (ha.o X h1) fun v s1 z1=> ?_)
  rw[z1.e]
  refine wpAny_truthy_bool ?_
  cases c with
  |false=>exact(go v s1 z1).1 rfl
  |true=>exact(go v s1 z1).2 rfl
theorem aj7(h:qc w aa T S lv sc nm n k l es):SE w aa T S lv sc nm n (.cv k l) (.BoolOp (if k then .And else .Or) es pos):=by
 intro A env ae hs ps st s r af X ao
 refine aN ao fun b aj h1 e=> ?_
 refine bY e ?_
 exact wm (h pos X h1) fun c s1 z1=>z1.qe
theorem alC{k:Bool}{l:aR}{es:List Expr}(h:sS w aa T S lv sc nm n k l es):ST w aa T S lv sc nm n (.cv k l) (.BoolOp (if k then .And else .Or) es pos):=by
 intro A env ae hs ps st s r af X ao
 refine aN (sC ao) fun b aj h1 e=> ?_
 cases e
 exact wpAny_isTrue_BoolOp (h X h1)
end
end
section
noncomputable def onA(n:Nat)(b:AV)(f:b.ctorIdx=n→Bool):Bool:=if h:b.ctorIdx=n then f h else false
noncomputable def on(n:Nat)(b:Expr)(f:b.ctorIdx=n→Bool):Bool:=if h:b.ctorIdx=n then f h else false
noncomputable def rG(n:Nat)(b:Stmt)(f:b.ctorIdx=n→Bool):Bool:=if h:b.ctorIdx=n then f h else false
noncomputable def uI(n:Nat)(b:Const)(f:b.ctorIdx=n→Bool):Bool:=if h:b.ctorIdx=n then f h else false
section
variable {C:Expr→Prop}
def LZ(e:Expr)(f:BoolOp→List Expr→Pos→Bool):Bool:=on 0 e fun h=>Expr.BoolOp.elim (motive_1:=fun _=>Bool) e h f
theorem UH(h:LZ e f=true)(k:∀a b p,f a b p=true→C (.BoolOp a b p)):C e:=cK (f:=fun h=>Expr.BoolOp.elim (motive_1:=fun _=>Bool) e h f) h fun h=>Expr.BoolOp.elim (motive_1:=fun e=>∀h,Expr.BoolOp.elim (motive_1:=fun _=>Bool) e h f=true→C e) e h (fun a b p _=>k a b p) h
def LY(e:Expr)(f:Expr→Operator→Expr→Pos→Bool):Bool:=on 2 e fun h=>Expr.BinOp.elim (motive_1:=fun _=>Bool) e h f
theorem Ui(h:LY e f=true)(k:∀a b c p,f a b c p=true→C (.BinOp a b c p)):C e:=cK (f:=fun h=>Expr.BinOp.elim (motive_1:=fun _=>Bool) e h f) h fun h=>Expr.BinOp.elim (motive_1:=fun e=>∀h,Expr.BinOp.elim (motive_1:=fun _=>Bool) e h f=true→C e) e h (fun a b c p _=>k a b c p) h
def Dv(e:Expr)(f:UnaryOp→Expr→Pos→Bool):Bool:=on 3 e fun h=>Expr.UnaryOp.elim (motive_1:=fun _=>Bool) e h f
theorem PC(h:Dv e f=true)(k:∀a b p,f a b p=true→C (.UnaryOp a b p)):C e:=cK (f:=fun h=>Expr.UnaryOp.elim (motive_1:=fun _=>Bool) e h f) h fun h=>Expr.UnaryOp.elim (motive_1:=fun e=>∀h,Expr.UnaryOp.elim (motive_1:=fun _=>Bool) e h f=true→C e) e h (fun a b p _=>k a b p) h
def L9(e:Expr)(f:Expr→Expr→Expr→Pos→Bool):Bool:=on 5 e fun h=>Expr.IfExp.elim (motive_1:=fun _=>Bool) e h f
theorem acd(h:L9 e f=true)(k:∀a b c p,f a b c p=true→C (.IfExp a b c p)):C e:=cK (f:=fun h=>Expr.IfExp.elim (motive_1:=fun _=>Bool) e h f) h fun h=>Expr.IfExp.elim (motive_1:=fun e=>∀h,Expr.IfExp.elim (motive_1:=fun _=>Bool) e h f=true→C e) e h (fun a b c p _=>k a b c p) h
def L3(e:Expr)(f:List (Option Expr)→List Expr→Pos→Bool):Bool:=on 6 e fun h=>Expr.Dict.elim (motive_1:=fun _=>Bool) e h f
theorem XR(h:L3 e f=true)(k:∀a b p,f a b p=true→C (.Dict a b p)):C e:=cK (f:=fun h=>Expr.Dict.elim (motive_1:=fun _=>Bool) e h f) h fun h=>Expr.Dict.elim (motive_1:=fun e=>∀h,Expr.Dict.elim (motive_1:=fun _=>Bool) e h f=true→C e) e h (fun a b p _=>k a b p) h
def Mc(e:Expr)(f:Expr→List Comprehension→Scope→Pos→Bool):Bool:=on 8 e fun h=>Expr.ListComp.elim (motive_1:=fun _=>Bool) e h f
theorem aet(h:Mc e f=true)(k:∀a b c p,f a b c p=true→C (.ListComp a b c p)):C e:=cK (f:=fun h=>Expr.ListComp.elim (motive_1:=fun _=>Bool) e h f) h fun h=>Expr.ListComp.elim (motive_1:=fun e=>∀h,Expr.ListComp.elim (motive_1:=fun _=>Bool) e h f=true→C e) e h (fun a b c p _=>k a b c p) h
def Dk(e:Expr)(f:Expr→List CmpOp→List Expr→Pos→Bool):Bool:=on 15 e fun h=>Expr.Compare.elim (motive_1:=fun _=>Bool) e h f
theorem Ik(h:Dk e f=true)(k:∀a b c p,f a b c p=true→C (.Compare a b c p)):C e:=cK (f:=fun h=>Expr.Compare.elim (motive_1:=fun _=>Bool) e h f) h fun h=>Expr.Compare.elim (motive_1:=fun e=>∀h,Expr.Compare.elim (motive_1:=fun _=>Bool) e h f=true→C e) e h (fun a b c p _=>k a b c p) h
def nV(e:Expr)(f:Expr→List Expr→List Keyword→Pos→Bool):Bool:=on 16 e fun h=>Expr.Call.elim (motive_1:=fun _=>Bool) e h f
theorem qr(h:nV e f=true)(k:∀a b c p,f a b c p=true→C (.Call a b c p)):C e:=cK (f:=fun h=>Expr.Call.elim (motive_1:=fun _=>Bool) e h f) h fun h=>Expr.Call.elim (motive_1:=fun e=>∀h,Expr.Call.elim (motive_1:=fun _=>Bool) e h f=true→C e) e h (fun a b c p _=>k a b c p) h
def L2(e:Expr)(f:Const→Nat→Pos→Bool):Bool:=on 19 e fun h=>Expr.Constant.elim (motive_1:=fun _=>Bool) e h f
theorem WX(h:L2 e f=true)(k:∀a b p,f a b p=true→C (.Constant a b p)):C e:=cK (f:=fun h=>Expr.Constant.elim (motive_1:=fun _=>Bool) e h f) h fun h=>Expr.Constant.elim (motive_1:=fun e=>∀h,Expr.Constant.elim (motive_1:=fun _=>Bool) e h f=true→C e) e h (fun a b p _=>k a b p) h
def pn(e:Expr)(f:Expr→Str→Pos→Bool):Bool:=on 20 e fun h=>Expr.Attribute.elim (motive_1:=fun _=>Bool) e h f
theorem qg(h:pn e f=true)(k:∀a b p,f a b p=true→C (.Attribute a b p)):C e:=cK (f:=fun h=>Expr.Attribute.elim (motive_1:=fun _=>Bool) e h f) h fun h=>Expr.Attribute.elim (motive_1:=fun e=>∀h,Expr.Attribute.elim (motive_1:=fun _=>Bool) e h f=true→C e) e h (fun a b p _=>k a b p) h
def yr(e:Expr)(f:Expr→Expr→Pos→Bool):Bool:=on 21 e fun h=>Expr.Subscript.elim (motive_1:=fun _=>Bool) e h f
theorem ED(h:yr e f=true)(k:∀a b p,f a b p=true→C (.Subscript a b p)):C e:=cK (f:=fun h=>Expr.Subscript.elim (motive_1:=fun _=>Bool) e h f) h fun h=>Expr.Subscript.elim (motive_1:=fun e=>∀h,Expr.Subscript.elim (motive_1:=fun _=>Bool) e h f=true→C e) e h (fun a b p _=>k a b p) h
def jF(e:Expr)(f:Str→Pos→Bool):Bool:=on 23 e fun h=>Expr.Name.elim (motive_1:=fun _=>Bool) e h f
theorem kg(h:jF e f=true)(k:∀a p,f a p=true→C (.Name a p)):C e:=cK (f:=fun h=>Expr.Name.elim (motive_1:=fun _=>Bool) e h f) h fun h=>Expr.Name.elim (motive_1:=fun e=>∀h,Expr.Name.elim (motive_1:=fun _=>Bool) e h f=true→C e) e h (fun a p _=>k a p) h
def Dp(e:Expr)(f:List Expr→Pos→Bool):Bool:=on 24 e fun h=>Expr.List.elim (motive_1:=fun _=>Bool) e h f
theorem Mr(h:Dp e f=true)(k:∀a p,f a p=true→C (.List a p)):C e:=cK (f:=fun h=>Expr.List.elim (motive_1:=fun _=>Bool) e h f) h fun h=>Expr.List.elim (motive_1:=fun e=>∀h,Expr.List.elim (motive_1:=fun _=>Bool) e h f=true→C e) e h (fun a p _=>k a p) h
def q8(e:Expr)(f:List Expr→Nat→Pos→Bool):Bool:=on 25 e fun h=>Expr.Tuple.elim (motive_1:=fun _=>Bool) e h f
theorem vU(h:q8 e f=true)(k:∀a b p,f a b p=true→C (.Tuple a b p)):C e:=cK (f:=fun h=>Expr.Tuple.elim (motive_1:=fun _=>Bool) e h f) h fun h=>Expr.Tuple.elim (motive_1:=fun e=>∀h,Expr.Tuple.elim (motive_1:=fun _=>Bool) e h f=true→C e) e h (fun a b p _=>k a b p) h
def Mh(e:Expr)(f:Option Expr→Option Expr→Option Expr→Pos→Bool):Bool:=on 26 e fun h=>Expr.Slice.elim (motive_1:=fun _=>Bool) e h f
theorem alb(h:Mh e f=true)(k:∀a b c p,f a b c p=true→C (.Slice a b c p)):C e:=cK (f:=fun h=>Expr.Slice.elim (motive_1:=fun _=>Bool) e h f) h fun h=>Expr.Slice.elim (motive_1:=fun e=>∀h,Expr.Slice.elim (motive_1:=fun _=>Bool) e h f=true→C e) e h (fun a b c p _=>k a b c p) h
end
section
variable {C:List α→Prop}
noncomputable def kc(l:List α)(f:α→List α→Bool):Bool:=List.casesOn (motive:=fun _=>Bool) l false f
theorem jW(h:kc l f=true)(k:∀a r,f a r=true→C (a::r)):C l:=List.casesOn (motive:=fun l=>kc l f=true→C l) l (fun h=>noConfusion h) k h
def kd(l:List α)(f:α→Bool):Bool:=kc l fun a r=>r.isEmpty&&f a
theorem lh(h:kd l f=true)(k:∀a,f a=true→C [a]):C l:=jW h fun a r h=>aS h fun h1 h2=>(isEmpty_iff.mp h1).symm▸k a h2
def Du(l:List α)(f:α→α→Bool):Bool:=kc l fun a r=>kd r (f a)
theorem PB(h:Du l f=true)(k:∀a b,f a b=true→C [a,b]):C l:=jW h fun a r h=>lh (C:=fun r=>C (a::r)) h (k a)
noncomputable def gM(o:Option α)(f:α→Bool):Bool:=casesOn (motive:=fun _=>Bool) o false f
theorem oy{o:Option α}{D:Option α→Prop}(h:gM o f=true)(k:∀a,f a=true→D (some a)):D o:=casesOn (motive:=fun l=>gM l f=true→D l) o (fun h=>noConfusion h) k h
end
end
section
noncomputable def tf(K:Frag)(C:Addr)(x:Str):Bool:=(clsIn K C).any (·.hasDict)&&findIn K (.ref C) x==some none&&findIn K (.ref C) "__getattribute__"==some (some (.builtin "object.__getattribute__"))&&
 plainOver K C&&takerIn K C x==some none&&findIn K (.ref C) "__setattr__"==some (some (.builtin "object.__setattr__"))
noncomputable def yK(K:Frag)(C:Addr)(x:Str)(f:Addr):Bool:=findIn K (.ref C) "__getattribute__"==some (some (.builtin "object.__getattribute__"))&&findIn K (.ref C) "__getattr__"==some none&&
 findIn K (.ref C) x==some (some (.ref f))&&typeIn K (.ref f)==some (.type "function")&&keepIn K (.ref f)
structure jT (aa:Heap) (K:Frag) (T:Tab):Prop where
 X:K.In aa
 nf:∀c x,T.nf c x=true→tf K c x=true
 uF:∀c x f,T.uF c x=some f→yK K c x f=true
 sm:(aa.get? sysModules).isSome=true
section
variable {T:Tab} {S:cf} {lv:Nat} {sc:Scope} {nm:List (Str×Nat)} {n:Nat} {K:Frag}
theorem bk.handed(x:RV w h O v d):handedIn v=true:=by cases d<;>cases x<;>rfl
theorem gA.find:∀{fs} {es:List DictEntry},eB w h O es fs→(∀v,mw fs x=some v→∃e,es.find? (·.key.isStr x)=some e∧RV w h O e.val v)∧(mw fs x=none→es.find? (·.key.isStr x)=none)∧es.any (·.refKey)=false:=fun {fs}=>by
 induction fs with
 |nil=>intro es r;rw[show es=[]from r];exact⟨fun v e=>(nomatch e),fun _=>rfl,rfl⟩
 |cons p fs ih=>
  intro es r
  cases r with|mk a r=>
  cases a with|@mk t v a=>
  have h:=ih r
  rw[ZW,find?_cons,any_cons,h.2.2,show Value.isStr (.str p.1 t) x=(p.1==x)from rfl]
  cases p.1==x with
  |true=>exact⟨fun v e=>⟨_,rfl,Option.some.inj e▸a⟩,(fun e=>nomatch (show some p.2=none from e)),rfl⟩
  |false=>exact⟨h.1,h.2.1,rfl⟩
theorem Lx(h1:h.get? a=some (instObj k dx))(h2:cX h dx es):∃od,InstAt h a (instObj k dx) k (some od)∧∃n,od.data=.dict es.toArray n:=h2.2.elim fun n e=>⟨_,⟨h1,rfl,rfl,e⟩,n,rfl⟩
theorem aeY(e:od.data=.dict es.toArray n)(r:eB w h O es fs)(f:mw fs x=some v):∃u,lookIn x od=some (some u)∧RV w h O u v:=
 ((gA.find (x:=x) r).1 v f).elim fun en h=>⟨en.val,by
  unfold lookIn
  rw[e]
  simp only
  rw[h.1],h.2⟩
theorem aeX(e:od.data=.dict es.toArray n)(r:eB w h O es fs)(f:mw fs x=none):lookIn x od=some none:=by
 have h:=gA.find (x:=x) r
 unfold lookIn
 rw[e]
 simp only
 rw[h.2.1 f,h.2.2]
 rfl
theorem Z1(h:tf K C x=true)(hu:lookIn x od=some (some u)):findIn K (.ref C) "__getattribute__"=some (some (.builtin "object.__getattribute__"))∧findObj K C (some od) x=some (some u |>.elim (.value u) .value):=
 aS h fun h _=>aS h fun h _=>aS h fun h _=>eE h fun t1 t2 t3=>(any_some t1).elim fun cd hc=>⟨eq_of_beq t3,by
  unfold findObj
  rw[hc.1,bind_some,show findIn K (.ref C) x=_ from eq_of_beq t2]
  show((some none).bind fun get=>_)=_
  rw[bind_some,bind_some]
  show((W.ownOf cd (some od) x).bind _)=_
  unfold W.ownOf
  rw[if_pos hc.2]
  show((lookIn x od).bind _)=_
  rw[hu];rfl⟩
theorem SQ(U:jT aa K T)(st:∀b o,aa.get? b=some o→s.heap.get? b=some o)(e:aQ T d x=some r)(p:RC w s.heap O v d):
  wpAny (ah w) A (getAttr v x b) (PV w O s r) aG s:=by
 refine Ov e p fun c fs a dx es e h1 h2 h3=>aX e fun ha e=> ?_
 refine(Lx h1 h2).elim fun od h=>h.2.elim fun n hn=>(aeY hn h3 e).elim fun u hu=> ?_
 have t:=Z1 (U.nf c x ha) hu.1
 exact get_value (U.X.keeps st) h.1 t.1 (v:=u) t.2 hu.2.handed ⟨Kp.tok,hu.2⟩
def oc(e:Expr):Bool:= !beq e.ctorIdx 16||nV e fun f args _ _=>beq f.ctorIdx 20|| !args.isEmpty
theorem Ha{env:Env}(h:oc o=true):attributeBase o x env t=t:=by
 cases o with
 |Call f args bX p=>
  refine(or_eq_true_iff.mp (show(beq f.ctorIdx 20|| !args.isEmpty)=true from h)).elim (fun h=> ?_) fun h=> ?_
  ·exact Expr.Attribute.elim (motive_1:=fun f=>attributeBase (.Call f args bX p) x env t=t) f (eq_of_beq_eq_true h) fun _ _ _=>rfl
  ·cases args with
   |nil=>cases h
   |cons a as=>cases f<;>rfl
 |_=>rfl
theorem aj3(U:jT aa K T)(ha:SE w aa T S lv sc nm n a ea)(hn:oc ea=true):SE w aa T S lv sc nm n (.attr a x) (.Attribute ea x pos):=by
 intro A env ae hs ps st s r af X ao
 refine aN ao fun ra aj h1 e=>aK e fun d h2 e=>aK e fun v h3 e=> ?_
 refine bY e ?_
 exact Attribute_any_ (wm (ha.c X h1) fun o s1 z1=>wm (SQ U z1.e.inv.stat h3 (z1.r.look z1.e.inv h2)) fun z s2 z2=>⟨z1.e.kp z2.1,z2.2⟩) (by rw[arm_eval_Attribute,Ha hn])
theorem aks(ha:SE w aa T S lv sc nm n a ea)(hb:SE w aa T S lv sc nm n b eb)(hn:DP eb=true):SE w aa T S lv sc nm n (.sub a b) (.Subscript ea eb pos):=by
 intro A env ae hs ps st s r af X ao
 refine aN ao fun ra aj h1 e=>aN e fun rb bU h2 e=>aK e fun x h3 e=>aK e fun y h4 e=>aK e fun d h5 e=> ?_
 refine bY e ?_
 exact Subscript_ (wm (ha.c X h1) fun v s1 z1=>wm (hb.c (X.next z1.e) h2) fun u s2 z2=>tail_any ((alV (E:=aG) (A:=A) h5 ((z1.r.move z2.e).look z2.e.inv h3) (z2.r.look z2.e.inv h4) X.un).elim fun T' h=>h.elim fun id h=>
  ⟨T',id,h.1,h.2.1,wm h.2.2 fun z s3 z3=>⟨(z1.e.trans z2.e).kp z3.1,z3.2⟩⟩) (alZ hn v u))
structure QO (w:World) (aa:Heap) (ae:Addr→Prop) (hs:List aI) (ps:Nat→Addr×Addr) (st af:St) (s:Shared) (r:Option Int) (v:Value) (s':Shared):Prop where
 e:EP w aa ae hs ps st af s s'
 r:IsPart v r
def qd(w:World)(aa:Heap)(T:Tab)(S:cf)(lv:Nat)(sc:Scope)(nm:List (Str×Nat))(n:Nat)(me:MO)(e:Option Expr):Prop:=
 ∀{A} {env} {ae} {hs} {ps} {st} {s} {r} {af},IS w aa lv sc nm n A env ae hs ps st s→xn T S me st=some (r,af)→wpAny (ah w) A (evalPart e env) (QO w aa ae hs ps st af s r) aG s
theorem akG:qd w aa T S lv sc nm n .no none:=by
 intro A env ae hs ps st s r af X ao
 refine bY ao ?_
 rw[evalPart_none]
 exact wpAny_pure ⟨X.refl,.none⟩
theorem akH(ha:SE w aa T S lv sc nm n a ea):qd w aa T S lv sc nm n (.yes a) (some ea):=by
 intro A env ae hs ps st s r af X ao
 refine aN ao fun i aj h1 e=> ?_
 refine bY e ?_
 rw[evalPart_some]
 exact wm (ha.i X h1) fun v s1 z1=>⟨z1.e,by cases z1 with|mk e r=>cases r with|mk t=>exact .int _ _⟩
theorem akr{lo hi:MO}(ha:SE w aa T S lv sc nm n a ea)(hl:qd w aa T S lv sc nm n lo el)(hh:qd w aa T S lv sc nm n hi eh):
  SE w aa T S lv sc nm n (.fW a lo hi) (.Subscript ea (.Slice el eh none p) pos):=by
 intro A env ae hs ps st s r af X ao
 refine aN ao fun ra aj h1 e=>aN e fun l bU h2 e=>aN e fun h pQ h3 e=>aK e fun d h4 e=>aK e fun v h5 e=> ?_
 refine bY e ?_
 refine Subscript_ (wm (ha.c X h1) fun o s1 z1=>wpAny_Slice (wm (hl (X.next z1.e) h2) fun vl s2 z2=>wm (hh ((X.next z1.e).next z2.e) h3) fun vh s3 z3=> ?_))
 rw[evalPart_none]
 have t:=(z1.e.trans (z2.e.trans z3.e)).kp (Kp.og (o:={cls:=.type "slice",data:=.fields #[vl,vh,.none]}))
 refine wpAny_pure (tail_any ?_ (al0 _ _))
 exact(ak8 (E:=aG) (A:=A) h5 ((((z1.r.move z2.e).move z3.e).move ((EP.refl z3.e.inv).kp Kp.og)).look t.inv h4) (a:=s3.heap.objs.size) ⟨_,Heap.get?_push_size _ rfl,rfl,rfl⟩ z2.r z3.r t.inv.bB).elim fun T' h=>h.elim fun id h=>
  ⟨T',id,h.1,h.2.1,wm h.2.2 fun z s4 z4=>rJ t z4⟩
structure jo (aa:Heap) (O:Addr→Prop) (s:Shared):Prop where
 stat:∀b o,aa.get? b=some o→s.heap.get? b=some o
 bB:jQ s.heap O
 old:∀b,O b→aa.get? b=none
def RO(w:World)(O:Addr→Prop)(s s':Shared)(v:Value):Res→Prop
 |.val d=>RV w s'.heap O v d
 |.fresh c=>Fo w s.heap s'.heap O v c
 |.loc _=>False
def RM(w:World)(O:Addr→Prop)(s s':Shared)(v:Value)(p:Addr×Addr)(c':AC):Res→Prop
 |.val d=>RV w s'.heap O v d∧cW w s'.heap O p c'
 |.fresh e=>∃q,v=.ref q.1∧(∀b,e.aU q b→s.heap.get? b=none)∧cW w s'.heap (fun b=>O b∨e.aU q b) q e∧cW w s'.heap (fun b=>O b∨e.aU q b) p c'
 |.loc _=>False
structure QM (w:World) (O:Addr→Prop) (s:Shared) (p:Addr×Addr) (c:AC) (cout:Option AC) (r:Res) (v:Value) (s':Shared):Prop where
 k:cy (c.aU p) s s'
 c:∃c',cout=some c'∧(∀b,c'.aU p b→c.aU p b)∧RM w O s s' v p c' r
structure QS (w:World) (O:Addr→Prop) (s:Shared) (r:Res) (v:Value) (s':Shared):Prop where
 k:Kp s s'
 r:RO w O s s' v r
structure jl (w:World) (aa:Heap) (S:cf) (lv:Nat):Prop where
 one:∀{f} {vs} {r} {cout},S f none vs=some (r,cout)→∀{A} {O} {s:Shared} {vals},Rm A lv→jo aa O s→au w s.heap O vals vs→wpAny (ah w) A (call (.ref f) vals) (QS w O s r) aG s
 two:∀{f} {c:AC} {vs} {r} {cout},S f (some c) vs=some (r,cout)→∀{A} {O} {s:Shared} {vals},Rm A lv→jo aa O s→au w s.heap O vals vs→∀p,cW w s.heap O p c→(∀b,c.aU p b→O b)→wpAny (ah w) A (call (.ref f) (.ref p.1::vals)) (QM w O s p c cout r) aG s
section
variable {st aj af:St}
theorem EP.static(x:EP w aa ae hs ps st af s s'):jo aa (OO ae hs ps af) s':=⟨x.inv.stat,x.inv.bB,x.inv.old⟩
theorem H8(C:jl w aa S lv)(R:Rm A lv)
  (x:EP w aa ae hs ps st aj s s1) (a:au w s1.heap (OO ae hs ps aj) vals vs) (h:yj S f vs aj=some (r,af)):
  wpAny (ah w) A (call (.ref f) vals) (QE w aa ae hs ps st af s r) aG s1:=by
 unfold yj at h
 cases hq:S f none vs with
 |none=>rw[hq]at h;cases h
 |some p=>
  rw[hq]at h
  obtain⟨r0,c0⟩:=p
  cases c0 with
  |some=>cases r0<;>cases h
  |none=>cases r0 with
   |loc=>cases h
   |val d=>cases h;exact wm (C.one hq R x.static a) fun v s2 z2=>⟨x.kp z2.k,z2.r⟩
   |fresh c=>cases h;exact wm (C.one hq R x.static a) fun v s2 z2=>⟨x.kp z2.k,z2.r.elim fun p q=>⟨p,q.1,fun b o=>x.aF.gone b (q.2.1 b o),q.2.2,x.inv.pw z2.k fun b o=>⟨q.2.1 b o,q.2.2.ok o⟩⟩⟩
theorem Inv.PG{F:Addr→Prop}{i:Nat}(I:Inv w aa ae hs ps st s)(e:st.get i=.own c)(k:cy (c.aU (ps i)) s s')
  (f:∀b,F b→s.heap.get? b=none∧(s'.heap.get? b).isSome=true) (hc:cW w s'.heap (fun b=>OO ae hs ps st b∨F b) (ps i) c') (ho:∀b,c'.aU (ps i) b→c.aU (ps i) b):
  Inv w aa (fun b=>ae b∨F b) hs ps (st.set i (.own c')) s'∧cZ ps (st.set i (.own c')) st:=by
 have hl:=Inv.lt e
 have L:cZ ps (st.set i (.own c')) st:=⟨length_set,fun j d h=>set_own h (fun q q'=>by subst q;cases q';exact⟨c,e,ho⟩) fun _ h=>⟨d,h,fun _ x=>x⟩⟩
 have nO:∀b,c.aU (ps i) b→OO ae hs ps st b:=fun b o=>.inr (.inr ⟨i,c,e,o⟩)
 have oo:∀{b},OO (fun b=>ae b∨F b) hs ps (st.set i (.own c')) b→OO ae hs ps st b∨F b:=fun x=>x.elim (fun x=>x.elim (fun x=>.inl (.inl x)) .inr) fun x=>.inl (.inr (x.imp id L.mem))
 have m:Mv s.heap s'.heap (OO ae hs ps st) (OO (fun b=>ae b∨F b) hs ps (st.set i (.own c'))):=⟨fun b o h n=>k.keep b o h fun q=>n (nO b q),fun b h n q=>(oo q).elim n fun q=>isSome_none h (f b q).1⟩
 have nF:∀b,Own ps st b→¬F b:=fun b o q=>isSome_none (I.bB b (.inr (.inr o))) (f b q).1
 refine⟨{len:=length_set.trans I.len,nodup:=I.nodup,stat:=fun b o h=>k.keep b o (I.stat b o h) fun q=>ez h (I.old b (nO b q)),bB:=fun b x=>(oo x).elim (fun x=> ?_) fun x=>(f b x).2,old:=fun b x=>(oo x).elim (I.old b) fun q=>none_of fun o h=>ez (I.stat b o h) (f b q).1,slot:=fun j hm hk=> ?_,apart:=fun j d b x y=> ?_},L⟩
 ·cases q:s'.heap.get? b with
  |some _=>rfl
  |none=>exact(isSome_none (I.bB b x) (k.gone b q)).elim
 ·have hH:∀o,s.heap.get? hm.addr=some o→s'.heap.get? hm.addr=some o:=fun o q=>k.keep _ _ q fun z=>(I.apart i c _ e z).2.1 ⟨hm,mem_of_getElem? hk,rfl⟩
  rw[vJ]
  by_cases q:i=j∧i<st.length
  ·rw[if_pos q]
   obtain⟨rfl,_⟩:=q
   exact⟨(I.own e hk).1.move hH,hc.mv (fun _ _ _ h=>h) (Mv.less fun b=>oo)⟩
  ·rw[if_neg q]
   exact(I.slot j hm hk).mv hH (fun d hd b o x h=>k.keep b o h fun z=>(I.apart i c b e z).2.2 j d (fun h=>q ⟨h.symm,hl⟩) hd x) m
 ·refine set_own x (fun q q'=> ?_) fun q x=> ?_
  ·subst q;cases q'
   have n:=I.apart i c b e (ho b y)
   exact⟨fun q=>q.elim n.1 (nF b ⟨i,c,e,ho b y⟩),n.2.1,fun l d gG z=>set_own z (fun q _=>absurd q.symm gG) fun _ z=>n.2.2 l d gG z⟩
  ·have n:=I.apart j d b x y
   exact⟨fun q=>q.elim n.1 (nF b ⟨j,d,x,y⟩),n.2.1,fun l d' gG z=>set_own z (fun q q'=>by subst q;cases q';exact fun o=>n.2.2 i c gG e (ho b o)) fun _ z=>n.2.2 l d' gG z⟩
theorem Inv.less(I:Inv w aa QW hs ps st s)(k:∀b,ae b→QW b):Inv w aa ae hs ps st s where
 len:=I.len
 nodup:=I.nodup
 stat:=I.stat
 bB:=fun b x=>I.bB b (x.imp (k _) id)
 old:=fun b x=>I.old b (x.imp (k _) id)
 slot:=fun i j e=>(I.slot i j e).mv (fun _ e=>e) (fun _ _ _ _ _ e=>e) (Mv.less fun b x=>x.imp (k _) id)
 apart:=fun i c b e o=>⟨fun q=>(I.apart i c b e o).1 (k b q),(I.apart i c b e o).2⟩
theorem Inv.upd(I:Inv w aa ae hs ps st s)(e:st.get i=.own c)(k:cy (c.aU (ps i)) s s')
  (hc:cW w s'.heap (OO ae hs ps st) (ps i) c') (ho:∀b,c'.aU (ps i) b→c.aU (ps i) b):EP w aa ae hs ps st (st.set i (.own c')) s s':=
 have a:=I.PG (F:=fun _=>False) e k (fun _ h=>h.elim) (hc.mv (fun _ _ _ h=>h) (Mv.less fun b h=>h.elim id False.elim)) ho
 ⟨a.1.less fun b h=>.inl h,k.mono fun b o=>.inl ⟨i,c,e,o⟩,a.2⟩
theorem H6(x:EP w aa ae hs ps st aj s s1)(hc:aj.get i=.own c)(z:QM w (OO ae hs ps aj) s1 (ps i) c (some c') r v s2):QE w aa ae hs ps st (aj.set i (.own c')) s r v s2:=by
 refine z.c.elim fun d h=> ?_
 cases h.1
 cases r with
 |val d=>
  have y:=x.inv.upd hc z.k h.2.2.2 h.2.1
  exact⟨x.trans y,bk.mv (Mv.less fun b=>y.bc.OO) h.2.2.1⟩
 |fresh e=>
  refine h.2.2.elim fun q e1=> ?_
  have i1:=x.inv.PG (F:=fun b=>e.aU q b) hc z.k (fun b o=>⟨e1.2.1 b o,e1.2.2.1.ok o⟩) e1.2.2.2 h.2.1
  exact⟨x.trans ⟨i1.1.less fun b h=>.inl h,z.k.mono fun b o=>.inl ⟨i,c,hc,o⟩,i1.2⟩,q,e1.1,fun b o=>x.aF.gone b (e1.2.1 b o),e1.2.2.1.mv (fun _ _ _ h=>h) (Mv.less fun b q=>q.imp i1.2.OO id),i1.1⟩
 |loc j=>exact h.2.2.elim
theorem H7(C:jl w aa S lv)(R:Rm A lv)
  (x:EP w aa ae hs ps st aj s s1) (a:au w s1.heap (OO ae hs ps aj) vals vs) (h:yi S f i vs aj=some (r,af)):
  wpAny (ah w) A (call (.ref f) (.ref (ps i).1::vals)) (QE w aa ae hs ps st af s r) aG s1:=by
 refine lN h fun c hc h=> ?_
 cases hq:S f (some c) vs with
 |none=>rw[hq]at h;cases h
 |some p=>
  rw[hq]at h
  obtain⟨r0,c0⟩:=p
  have go:=C.two hq R x.static a (ps i) (x.inv.cell hc) fun b o=>.inr (.inr ⟨i,c,hc,o⟩)
  cases c0 with
  |none=>cases r0<;>cases h
  |some c'=>cases r0 with
   |loc=>cases h
   |val d=>cases h;exact wm go fun v s2 z2=>H6 x hc z2
   |fresh e=>cases h;exact wm go fun v s2 z2=>H6 x hc z2
end
end
end
section
def sP(aa:Heap)(x:Str)(v:Value):Prop:=∃mg,aa.Ns mainGlobals mg∧mg x=some v
def sO(aa:Heap)(x:Str)(v:Value):Prop:=∃mg mb,aa.Ns mainGlobals mg∧mg x=none∧aa.Ns builtinsNs mb∧mb x=some v
section
variable {T:Tab} {S:cf} {lv:Nat} {sc:Scope} {nm:List (Str×Nat)} {n:Nat} {K:Frag}
theorem AF{env}:∀{args:List Expr},args.all notStar=true→(backTo pos (starEach args env)).any (·.1)=false∧(backTo pos (starEach args env)).all (fun x=> !x.1)=true
 |[],_=>⟨rfl,rfl⟩
 |e::r,h=>by
  rw[all_cons,and_eq_true]at h
  obtain⟨a,b⟩:=AF (args:=r) (env:=env) (pos:=pos) h.2
  rw[mZ h.1]
  exact⟨by show(false||(backTo pos (starEach r env)).any _)=false;rw[a];rfl,by show(!false&&(backTo pos (starEach r env)).all _)=true;rw[b];rfl⟩
theorem tF{env:Env}(P:Heap→Prop)(hp:args.all notStar=true)
  (hk:∀h,P h→∃k,(k=Keeper.frame∨k=Keeper.machine∨k=Keeper.boundFrame)∧Looks (ah w) h (keeperOf f) k)
  (h:wpAny (ah w) A (spliced (backTo pos (starEach args env))) (fun vs bV=>P bV.heap∧wpAny (ah w) A (call f (first++vs)) Q aG bV) aG s):
  wpAny (ah w) A (callWith pos f first (backTo pos (starEach args env)) []) Q aG s:=by
 refine callWith_of (by rw[(AF hp).1];rfl) hk ?_
 cases args with
 |nil=>
  unfold evalArgs
  show wpAny _ A (spliced []>>=_) _ _ s
  refine wpAny_bind (wm h fun vs s1 z=> ?_)
  refine wpAny_bind (wpAny_pure ?_)
  refine wpAny_holding ?_
  exact wpAny_bind (wpAny_pure (wpAny_bind (wpAny_pure (wpAny_pure z))))
 |cons e r=>
  rw[all_cons,and_eq_true]at hp
  rw[mZ hp.1]at h ⊢
  exact evalArgs_plain h
theorem DG{env:Env}(hn:oc eo=true)(hl:(apos.endLine==pos.line)=true)(hp:args.all notStar=true)(nL:args.length<30)
  (h:wpAny (ah w) A (eval eo env) (fun ov s1=>wpAny (ah w) A (getMethod ov x (do return (←importBound eo env).getD true)) (fun fx s2=>wpAny (ah w) A (callWith pos fx.1 fx.2 (backTo pos (starEach args env)) []) Q aG s2) aG s1) aG s):
  wpAny (ah w) A (eval (.Call (.Attribute eo x apos) args [] pos) env) Q aG s:=by
 rw[arm_eval_Call,Ha hn]
 refine wpAny_bind (wm h fun ov s1 z=>wpAny_bind (wpAny_standAt ?_))
 have abx:methodCallForm (args.length+([]:List Keyword).length) (backTo pos (starEach args env)) (backToKw pos (keywordEach [] env))=true:=by
  unfold methodCallForm
  rw[(AF hp).2]
  show(true&&true&&decide (args.length+0+0<30))=true
  simpa using nL
 have abO:methodCallPos true eo env apos pos=pure pos:=by unfold methodCallPos;simp[hl]
 unfold methodCall
 rw[abx]
 refine wpAny_bind (wpAny_holding ?_)
 exact wm z fun fx s2 z2=>wpAny_bind (wpAny_of_eq abO z2)
theorem yF{env:Env}(KK:ef env sc nm hs)(stat:∀b o,aa.get? b=some o→s.heap.get? b=some o)(hk:sc.names.lookup x=some .globalImplicit)(hd:(x==("__debug__":Str))=false)
  (hg:sP aa x v∨sO aa x v) (h:Q v s):wpAny (ah w) A (eval (.Name x pos) env) Q aG s:=by
 refine Name_function_global (by rw[KK.scope];exact KK.kind) (by show env.scope.names.lookup x=_;rw[KK.scope];exact hk) ?_ hd
 rcases hg with⟨mg,h1,h2⟩|⟨mg,mb,h1,h2,h3,h4⟩
 ·exact loadGlobal_global (mg:=mg) (by rw[KK.globals];exact h1.keeps stat) h2 h
 ·exact loadGlobal_builtin (mg:=mg) (mb:=mb) (by rw[KK.globals];exact h1.keeps stat) h2 (by rw[KK.builtins];exact h3.keeps stat) h4 h
theorem aj9(U:jT aa K T)(C:jl w aa S lv)(hk:sc.names.lookup x=some .globalImplicit)(hd:(x==("__debug__":Str))=false)(hg:sP aa x (.ref f))(hf:keepIn K (.ref f)=true)
  (hp:args.all notStar=true) (hl:mi w aa T S lv sc nm n l args):SE w aa T S lv sc nm n (.call x f l) (.Call (.Name x p) args [] pos):=by
 intro A env ae hs ps st s r af X ao
 refine aN ao fun vs aj h1 e=> ?_
 exact wpAny_Call_NameR (yF X.K X.I.stat hk hd (.inl hg) (tF K.In hp (keeps_K hf) (wm (hl pos X h1) fun vals s1 z1=>⟨U.X.keeps z1.e.inv.stat,H8 C X.R z1.e z1.r e⟩)))
theorem aj8(U:jT aa K T)(C:jl w aa S lv)(hk:sc.names.lookup x=some .globalImplicit)(hd:(x==("__debug__":Str))=false)(hg:sP aa x (.ref f))(hf:keepIn K (.ref f)=true)
  (hp:args.all notStar=true) (hv:SE w aa T S lv sc nm n (.var i) (.Name y p')) (hl:mi w aa T S lv sc nm n l args):SE w aa T S lv sc nm n (.cz x f i l) (.Call (.Name x p) (.Name y p'::args) [] pos):=by
 intro A env ae hs ps st s r af X ao
 refine lN ao fun c0 ud e=>aN e fun vs aj h1 e=> ?_
 have e0:ev T S (.var i) st=some (.loc i,st):=show yu i st (st.get i)=_ by rw[ud];rfl
 refine wpAny_Call_NameR (yF X.K X.I.stat hk hd (.inl hg) (tF K.In (show(Expr.Name y p'::args).all notStar=true from hp) (keeps_K hf) (wpAny_items_cons (wm (hv X e0) fun v s1 z1=>wm (hl pos (X.next z1.e) h1) fun vals s2 z2=>⟨U.X.keeps z2.e.inv.stat,?_⟩) (mZ rfl))))
 exact(show v=_ from z1.r.elim fun _ h=>h.2)▸H7 C X.R (z1.e.trans z2.e) z2.r e
theorem af6(h:yK K C x f=true):findIn K (.ref C) "__getattribute__"=some (some (.builtin "object.__getattribute__"))∧findIn K (.ref C) "__getattr__"=some none∧findIn K (.ref C) x=some (some (.ref f))∧typeIn K (.ref f)=some (.type "function")∧keepIn K (.ref f)=true:=
 gX h fun t1 t2 t3 t4 t5=>⟨eq_of_beq t1,eq_of_beq t2,eq_of_beq t3,eq_of_beq t4,t5⟩
theorem adz{st aj bU af:St}(C:jl w aa S lv)(R:Rm A lv)
  (z1:QC w aa ae hs ps st aj s ra v s1) (z2:Fs w aa ae hs ps aj bU s1 vs vals s2) (e:Md S f ra vs bU=some (r,af)):wpAny (ah w) A (call (.ref f) ([v]++vals)) (QE w aa ae hs ps st af s r) aG s2:=by
 have y:=z1.e.trans z2.e
 have h:=z1.r
 cases ra with
 |val d=>exact H8 C R y (bW.cons (bk.mv z2.e.mv h) z2.r) e
 |loc i=>exact(show v=_ from h)▸H7 C R y z2.r e
 |fresh c=>exact ba e
theorem ako(U:jT aa K T)(C:jl w aa S lv)(ho:SE w aa T S lv sc nm n o eo)(hl:mi w aa T S lv sc nm n l args)
  (hn:oc eo=true) (uh:(apos.endLine==pos.line)=true) (hp:args.all notStar=true) (nL:args.length<30):SE w aa T S lv sc nm n (.aO o x l) (.Call (.Attribute eo x apos) args [] pos):=by
 intro A env ae hs ps st s r af X ao
 refine aN ao fun ra aj h1 e=>aK e fun d h2 e=>aK e fun f h3 e=>aN e fun vs bU h4 fin=> ?_
 refine DG hn uh hp nL (wm (ho.c X h1) fun v s1 z1=> ?_)
 have X':K.In s1.heap:=U.X.keeps z1.e.inv.stat
 have k:=fun vals s2 z2=>adz (vals:=vals) (s2:=s2) C X.R z1 z2 fin
 revert k
 refine Ov h3 (z1.r.look z1.e.inv h2) fun c fs a dx es e e1 e2 e3 k=>aX e fun CV e=> ?_
 have t:=af6 (U.uF c x f e)
 exact(Lx e1 e2).elim fun od h=>h.2.elim fun k' hk=>method_fn X' h.1 t.1 t.2.1 t.2.2.1 t.2.2.2.1 (by show((lookIn x od).map _)=_;rw[aeX hk e3 (isNone_iff_eq_none.mp CV)];rfl)
  (tF K.In hp (keeps_K t.2.2.2.2) (wm (hl pos (X.next z1.e) h4) fun vals s2 z2=>⟨U.X.keeps z2.e.inv.stat,k vals s2 z2⟩))
theorem Mk(h:∀a,v≠.ref a)(hp):True→∃k,(k=Keeper.frame∨k=Keeper.machine∨k=Keeper.boundFrame)∧Looks (ah w) hp (keeperOf v) k:=fun _=>by
 refine⟨.machine,.inr (.inl rfl),?_⟩
 unfold keeperOf
 split
 ·exact absurd rfl (h _)
 ·exact .now
theorem Uu(h:oU b=some (x,f)):∀a,f≠.ref a:=by
 intro a e;subst e
 cases b<;>cases h
theorem aj5(U:jT aa K T)(hb:oU b=some (x,f))(hk:sc.names.lookup x=some .globalImplicit)(hd:(x==("__debug__":Str))=false)(hg:sO aa x f)
  (hp:args.all notStar=true) (hl:oM w aa T S lv sc nm n l args):SE w aa T S lv sc nm n (.blt b l) (.Call (.Name x p) args [] pos):=by
 intro A env ae hs ps st s r af X ao
 refine aN ao fun rs aj h1 e=>aK e fun ds h2 e=>aK e fun d h3 e=> ?_
 refine bY e ?_
 exact wpAny_Call_NameR (yF X.K X.I.stat hk hd (.inr hg) (tF (fun _=>True) hp (Mk (Uu hb)) (wm (hl pos X h1) fun vals s1 z1=>⟨trivial,
  wm (Uv hb h3 z1.e.inv.bB ((isSome_iff_exists.mp U.sm).elim fun o e=>isSome_of_eq_some (z1.e.inv.stat _ _ e)) (z1.r.look z1.e.inv h2) X.R.hd (lt_of_le_of_lt (add_le_add (le_add_right ..) (by decide)) X.R.un)) fun z s2 z2=>rJ z1.e z2⟩)))
end
end
section
section
variable {ae:Addr→Prop} {hs:List aI} {ps:Nat→Addr×Addr} {st:St} {s:Shared}
theorem Nx{h:Heap}{a:Addr}(x:h.Ns a m)(y:h.IsCell a u):False:=by
 obtain⟨o,es,ep,e,d,_⟩:=x
 obtain⟨o',e',d'⟩:=y
 rw[e]at e';cases e'
 rw[d]at d';cases d'
theorem KW(x:eA h k u)(y:eA h j v)(n:k≠j):k.addr≠j.addr∨∃C x y,k=.loc C x∧j=.loc C y∧x≠y:=by
 cases k with
 |loc C a=>cases j with
  |loc D b=>exact if q:C=D then .inr ⟨C,a,b,rfl,by rw[q],fun e=>n (by rw[q,e])⟩else .inl q
  |jY c=>exact .inl fun(q:C=c)=>x.elim fun m x=>Nx x.1 (q▸y)
 |jY c=>cases j with
  |loc D b=>exact .inl fun(q:c=D)=>y.elim fun m y=>Nx y.1 (q▸x)
  |jY d=>exact .inl fun(q:c=d)=>n (by rw[q])
structure m8 (h h':Heap) (k:aI) (v:Value):Prop where
 same:Heap.SameBut k.addr h h'
 here:eA h' k (some v)
 other:∀j u,j≠k→eA h j u→eA h' j u
theorem vN{env:Env}(KK:ef env sc nm hs)(hx:nm.lookup x=some i)(hk:hs[i]? =some k)(hu:eA s.heap k u)
  (h:∀h' tk,m8 s.heap h' k v→Q () {s with heap:=h',toks:=tk}):wpAny (ah w) A (storeName env x v) Q E s:=by
 have La:env.scope.kind=.function:=by rw[KK.scope];exact KK.kind
 have hn:=fun {z} (a:sc.names.lookup x=z)=>show env.scope.names.lookup x=z by rw[KK.scope];exact a
 refine(KK.ph x i hx).elim (fun a=> ?_) fun a=>a.2.elim fun c b=> ?_
 ·cases hk.symm.trans a.2
  refine hu.elim fun m hm=>wpAny_storeName_local (hn a.1) hm.1 (fun h' hn di=>h h' _ ⟨di,⟨_,hn,by simp⟩,fun j u nj hj=>(KW hj (show eA s.heap (.loc env.locals x) _ from⟨m,hm⟩) nj).elim (fun q=>hj.move fun o e=>(di.2 _ q).trans e) fun z=> ?_⟩) (by rw[La];rfl)
  obtain⟨C,y,z,rfl,e2,q⟩:=z
  cases e2
  exact hj.elim fun m' xW=>⟨_,hn,by rw[if_neg q,Nw hm.1 xW.1];exact xW.2⟩
 ·cases hk.symm.trans b.2
  exact wpAny_storeName_cell La (hn a.1) b.1 hu fun h' hc di=>h h' s.toks ⟨di,hc,fun j u nj hj=>(KW hj (k:=j) (j:=.jY c) hu nj).elim (fun q=>hj.move fun o e=>(di.2 _ q).trans e) fun z=>z.elim fun _ z=>z.elim fun _ z=>z.elim fun _ z=>nomatch z.2.1⟩
theorem uM(p:m8 h h' k v):∀b,h'.get? b=none→h.get? b=none:=fun b e=>
 if q:b=k.addr then(isSome_none (q▸p.here.some) e).elim else(p.same.2 b q).symm.trans e
theorem DO{α:Type}{l:List α}(h:l.Nodup){i j:Nat}{x y:α}(hi:l[i]? =some x)(hj:l[j]? =some y)(n:i≠j):x≠y:=fun e=>
 n ((List.getElem?_inj (List.getElem?_eq_some_iff.mp hi).1 h).mp (hi.trans (e▸hj.symm)))
theorem Inv.uo(I:Inv w aa ae hs ps st s)(hk:hs[i]? =some k):i<st.length:=I.len▸(List.getElem?_eq_some_iff.mp hk).1
theorem Inv.nM{i:Nat}(I:Inv w aa ae hs ps st s)(hk:hs[i]? =some k):∃u,eA s.heap k u:=by
 have h:=I.slot i k hk
 revert h
 cases st.get i with
 |no=>exact id
 |val d=>exact fun h=>h.elim fun v a=>⟨_,a.1⟩
 |own c=>exact fun h=>⟨_,h.1⟩
theorem oO.put(a:oO w h O p j x)(n:j≠k)(q:m8 h h' k v)(g:∀c,x=.own c→∀b,c.aU p b→b≠k.addr)(m:Mv h h' O O'):oO w h' O' p j x:=by
 cases x with
 |no=>exact a.elim fun u a=>⟨u,q.other _ _ n a⟩
 |val d=>exact a.elim fun v a=>⟨v,q.other _ _ n a.1,a.2.mv m⟩
 |own c=>exact⟨q.other _ _ n a.1,a.2.mv (fun b _ x z=>(q.same.2 b (g c rfl b x)).trans z) m⟩
theorem Inv.put{i:Nat}{k:aI}{v:Value}{d:AV}{h':Heap}{tk:Nat}(I:Inv w aa ae hs ps st s)(hk:hs[i]? =some k)(r:RV w s.heap (OO ae hs ps st) v d)(p:m8 s.heap h' k v):Inv w aa ae hs ps (st.set i (.val d)) {s with heap:=h',toks:=tk}:=by
 have hl:=I.uo hk
 have L:cZ ps (st.set i (.val d)) st:=cZ.set fun _ q=>nomatch q
 have hH:HO hs k.addr:=⟨k,mem_of_getElem? hk,rfl⟩
 have hO:OO ae hs ps st k.addr:=.inr (.inl hH)
 have m:Mv s.heap h' (OO ae hs ps st) (OO ae hs ps (st.set i (.val d))):=⟨fun b o e nn=>(p.same.2 b fun q=>nn (q▸hO)).trans e,fun b _ nn q=>nn (L.OO q)⟩
 refine⟨length_set.trans I.len,I.nodup,fun b o e=>(p.same.2 b fun q=>ez e (q▸I.old _ hO)).trans (I.stat b o e),fun b x=> ?_,fun b x=>I.old b (L.OO x),fun j kj hj=> ?_,fun j c b x y=>set_own x (fun _ q=>nomatch q) fun _ x=>⟨(I.apart j c b x y).1,(I.apart j c b x y).2.1,fun l d' gG z=>set_own z (fun _ q=>nomatch q) fun _ z=>(I.apart j c b x y).2.2 l d' gG z⟩⟩
 ·cases q:h'.get? b with
  |some _=>rfl
  |none=>exact(isSome_none (I.bB b (L.OO x)) (uM p b q)).elim
 ·rw[vJ]
  by_cases q:i=j∧i<st.length
  ·rw[if_pos q]
   obtain⟨rfl,_⟩:=q
   cases hk.symm.trans hj
   exact⟨v,p.here,r.mv m⟩
  ·rw[if_neg q]
   exact(I.slot j kj hj).put (DO I.nodup hj hk fun e=>q ⟨e.symm,hl⟩) p (fun c hc b o z=>(I.apart j c b hc o).2.1 (z▸hH)) m
noncomputable def oE(ps:Nat→Addr×Addr)(i:Nat)(p:Addr×Addr):Nat→Addr×Addr:=fun j=>if j=i then p else ps j
theorem mP{i j:Nat}{p:Addr×Addr}{c d:AC}{P:Prop}(hl:i<st.length)(h:St.get (st.set i (.own c)) j=.own d)(k1:j=i→d=c→oE ps i p j=p→P)(k2:j≠i→st.get j=.own d→oE ps i p j=ps j→P):P:=
 set_own h (fun q e=>k1 q.symm (Slot.so e).symm (if_pos q.symm)) fun q e=>have n:j≠i:=fun z=>Nat.not_lt.mpr (q z.symm) hl;k2 n e (if_neg n)
theorem Inv.Eb{i:Nat}{k:aI}{p:Addr×Addr}{c:AC}{h':Heap}{tk:Nat}(I:Inv w aa (fun b=>ae b∨c.aU p b) hs ps st s)(hk:hs[i]? =some k)(r:cW w s.heap (fun b=>OO ae hs ps st b∨c.aU p b) p c)
  (nO:∀b,c.aU p b→¬OO ae hs ps st b) (q:m8 s.heap h' k (.ref p.1)):Inv w aa ae hs (oE ps i p) (st.set i (.own c)) {s with heap:=h',toks:=tk}:=by
 have hl:=I.uo hk
 have hH:HO hs k.addr:=⟨k,mem_of_getElem? hk,rfl⟩
 have o1:∀{b},OO ae hs (oE ps i p) (st.set i (.own c)) b→OO ae hs ps st b∨c.aU p b:=fun x=>x.elim (fun x=>.inl (.inl x)) fun x=>x.elim (fun x=>.inl (.inr (.inl x))) fun x=>x.elim fun j x=>x.elim fun d x=>
  mP (ps:=ps) (p:=p) hl x.1 (fun _ e z=>.inr (by have:=x.2;rw[z,e]at this;exact this)) fun _ e z=>.inl (.inr (.inr ⟨j,d,e,z▸x.2⟩))
 have o2:∀{b},OO ae hs ps st b∨c.aU p b→OO (fun b=>ae b∨c.aU p b) hs ps st b:=fun x=>x.elim (fun x=>x.imp .inl id) fun x=>.inl (.inr x)
 have nk:∀{b},¬(OO ae hs ps st b∨c.aU p b)→b≠k.addr:=fun nn z=>nn (z▸.inl (.inr (.inl hH)))
 have m:∀{O},(∀b,OO ae hs ps st b∨c.aU p b→O b)→Mv s.heap h' O (OO ae hs (oE ps i p) (st.set i (.own c))):=fun f=>⟨fun b o e nn=>(q.same.2 b (nk fun x=>nn (f b x))).trans e,fun b _ nn z=>nn (f b (o1 z))⟩
 refine⟨length_set.trans I.len,I.nodup,fun b o e=>(q.same.2 b fun z=>ez e (z▸I.old _ (o2 (.inl (.inr (.inl hH)))))).trans (I.stat b o e),fun b x=> ?_,fun b x=>I.old b (o2 (o1 x)),fun j kj hj=> ?_,fun j d b x y=> ?_⟩
 ·cases q2:h'.get? b with
  |some _=>rfl
  |none=>exact(isSome_none (I.bB b (o2 (o1 x))) (uM q b q2)).elim
 ·rw[vJ]
  by_cases z:i=j∧i<st.length
  ·rw[if_pos z]
   obtain⟨rfl,_⟩:=z
   cases hk.symm.trans hj
   rw[show oE ps i p i=p from if_pos rfl]
   exact⟨q.here,r.mv (fun b _ o x=>(q.same.2 b fun e=>nO b o (e▸.inr (.inl hH))).trans x) (m fun _ x=>x)⟩
  ·rw[if_neg z]
   have K8:j≠i:=fun e=>z ⟨e.symm,hl⟩
   rw[show oE ps i p j=ps j from if_neg K8]
   exact(I.slot j kj hj).put (DO I.nodup hj hk K8) q (fun c hc b o z=>(I.apart j c b hc o).2.1 (z▸hH)) (m fun _=>o2)
 ·refine mP (ps:=ps) (p:=p) hl x (fun e1 e2 e3=> ?_) fun e1 e2 e3=> ?_
  ·rw[e3,e2]at y
   exact⟨fun h=>nO b y (.inl h),fun h=>nO b y (.inr (.inl h)),fun l d' gG z=>mP (ps:=ps) (p:=p) hl z (fun e=>absurd (e.trans e1.symm) gG) fun _ e z=>z.symm▸fun o=>nO b y (.inr (.inr ⟨l,d',e,o⟩))⟩
  ·rw[e3]at y
   have n:=I.apart j d b e2 y
   exact⟨fun h=>n.1 (.inl h),n.2.1,fun l d' gG z=>mP (ps:=ps) (p:=p) hl z (fun _ e z=>z.symm▸e.symm▸fun o=>n.1 (.inr o)) fun _ e z=>z.symm▸n.2.2 l d' gG e⟩
structure SP (w:World) (aa:Heap) (ae:Addr→Prop) (hs:List aI) (ps aE:Nat→Addr×Addr) (st af:St) (s s':Shared):Prop where
 inv:Inv w aa ae hs aE af s'
 aF:cy (fun b=>HO hs b∨Own ps st b) s s'
 own:∀b,Own aE af b→Own ps st b∨s.heap.get? b=none
 len:af.length=st.length
 fst:∀c',af.get 0=.own c'→∃c,st.get 0=.own c∧aE 0=ps 0∧∀b,c'.aU (aE 0) b→c.aU (ps 0) b
theorem EP.sp(x:EP w aa ae hs ps st af s s'):SP w aa ae hs ps ps st af s s':=
 ⟨x.inv,x.aF.mono fun b o=>.inl (.inr o),fun b o=>.inl (x.bc.mem o),x.bc.len,fun c' e=>(x.bc.own 0 c' e).elim fun c k=>⟨c,k.1,rfl,k.2⟩⟩
theorem SP.trans(x:SP w aa ae hs ps aE st af s s')(y:SP w aa ae hs aE ahU af pO s' ip):SP w aa ae hs ps ahU st pO s ip:=
 ⟨y.inv,x.aF.trans y.aF fun b o=>o.elim (fun h=>.inl (.inl h)) fun o=>(x.own b o).elim (fun o=>.inl (.inr o)) .inr,fun b o=>(y.own b o).elim (x.own b) fun h=>.inr (x.aF.gone b h),y.len.trans x.len,fun UT e=>(y.fst UT e).elim fun c' k=>(x.fst c' k.1).elim fun c k'=>⟨c,k'.1,k.2.1.trans k'.2.1,fun b o=>k'.2.2 b (k.2.2 b o)⟩⟩
theorem Ec{i:Nat}{k:aI}{tk:Nat}(hk:hs[i]? =some k)(p:m8 s.heap h' k v):cy (fun b=>HO hs b∨Own ps st b) s {s with heap:=h',toks:=tk}:=
 ⟨h',tk,rfl,fun b o e n=>(p.same.2 b fun z=>n (.inl ⟨k,mem_of_getElem? hk,z.symm⟩)).trans e,uM p⟩
theorem Inv.rM{i:Nat}{k:aI}{v:Value}{tk:Nat}(I:Inv w aa ae hs ps st s)(hk:hs[i]? =some k)(r:RV w s.heap (OO ae hs ps st) v d)(p:m8 s.heap h' k v):SP w aa ae hs ps ps st (st.set i (.val d)) s {s with heap:=h',toks:=tk}:=
 have L:cZ ps (st.set i (.val d)) st:=cZ.set fun _ q=>nomatch q
 ⟨I.put hk r p,Ec hk p,fun b o=>.inl (L.mem o),L.len,fun c' e=>(L.own 0 c' e).elim fun c k=>⟨c,k.1,rfl,k.2⟩⟩
theorem ef.at{env:Env}(KK:ef env sc nm hs)(hx:nm.lookup x=some i):∃k,hs[i]? =some k:=(KK.ph x i hx).elim (fun b=>⟨_,b.2⟩) fun b=>b.2.elim fun c d=>⟨_,d.2⟩
theorem alN{A:Around}{env:Env}{x:Str}{i:Nat}{own:Bool}{v:Value}{aj af:St}{s1}{Q}{E:Value→Shared→Prop}(KK:ef env sc nm hs)(hx:nm.lookup x=some i)(I0:Inv w aa ae hs ps st s)(y:EP w aa ae hs ps st aj s s1)(rr:RR w aa ae hs ps aj s s1 v r)
  (e:put aj i own r=some af) (h:∀aE s',SP w aa ae hs ps aE st af s s'→Q () s'):wpAny (ah w) A (storeName env x v) Q E s1:=by
 refine(KK.at hx).elim fun k hk=>(y.inv.nM hk).elim fun u hu=>vN KK hx hk hu ?_
 have ys:=y.sp
 cases r with
 |val d=>
  refine aX e fun _ e=> ?_
  cases e
  exact fun h' tk p=>h _ _ (ys.trans (y.inv.rM hk rr p))
 |loc j=>
  refine rr.elim fun c hc=> ?_
  have e:yn aj i j (aj.get j)=some af:=e
  rw[hc.1]at e
  refine aX e fun _ e=> ?_
  cases e
  have f:=y.inv.freeze hc.1
  exact fun h' tk p=>h _ _ ((EP.sp ⟨f.1,y.aF,f.2.1.trans y.bc⟩).trans (f.1.rM hk (hc.2▸f.2.2) p))
 |fresh c=>
  cases own with
  |false=>
   refine aX e fun _ e=> ?_
   cases e
   exact fun h' tk p=>h _ _ (ys.trans (y.inv.rM hk (Ck y I0 rr) p))
  |true=>
   refine aX e fun hc e=>aS hc fun _ hc=> ?_
   cases e
   have hi:i≠0:=fun q=>by rw[q]at hc;cases hc
   refine rr.elim fun p z=> ?_
   obtain rfl:=z.1
   have hl:=y.inv.uo hk
   exact fun h' tk q=>h _ _ ⟨z.2.2.2.Eb hk z.2.2.1 (fun b o q=>isSome_none (I0.bB b (y.bc.OO q)) (z.2.1 b o)) q,y.aF.mono (fun b o=>.inl (.inr o)) |>.trans (Ec (st:=aj) (ps:=ps) hk q) (fun b o=>.inl (o.imp id y.bc.mem)),
    fun b o=>o.elim fun j o=>o.elim fun d o=>mP (ps:=ps) (p:=p) hl o.1 (fun _ e2 e3=>.inr (z.2.1 b (by have:=o.2;rw[e3,e2]at this;exact this))) fun _ e2 e3=>.inl (y.bc.mem ⟨j,d,e2,e3▸o.2⟩),
    length_set.trans y.bc.len,fun c' e=>mP (ps:=ps) (p:=p) hl e (fun q=>absurd q.symm hi) fun _ e2 e3=>(y.bc.own 0 c' e2).elim fun c0 k0=>⟨c0,k0.1,e3,fun b o=>k0.2 b (e3▸o)⟩⟩
end
end
section
def E7(nm:List (Str×Nat))(i:Nat)(e:Expr):Bool:=jF e fun x _=>nm.lookup x==some i
noncomputable def kD(nm:List (Str×Nat)):List Nat→List Expr→Bool
 |[]=>fun es=>es.isEmpty
 |i::is=>fun es=>kc es fun e es=>E7 nm i e&&kD nm is es
def l6(nm:List (Str×Nat))(t:eO)(e:Expr):Bool:=eO.casesOn (motive:=fun _=>Bool) t (fun i=>E7 nm i e) fun is=>q8 e fun es _ _=>kD nm is es
noncomputable def pV:eO→List Nat
 |.one i=>[i]
 |.many is=>is
section
@[elab_as_elim] theorem Pw{C:Expr→Prop}{i:Nat}(h:E7 nm i e=true)(k:∀x p,nm.lookup x=some i→C (.Name x p)):C e:=kg h fun x p h=>k x p (eq_of_beq h)
@[elab_as_elim] theorem AN{C:List Expr→Prop}{i:Nat}(h:kD nm (i::is) es=true)(k:∀x p er,nm.lookup x=some i→kD nm is er=true→C (.Name x p::er)):C es:=jW h fun e er h=>aS h fun h1 h2=>Pw (C:=fun e=>C (e::er)) h1 fun x p h1=>k x p er h1 h2
variable {ae:Addr→Prop} {hs:List aI} {ps:Nat→Addr×Addr} {st:St} {s:Shared}
def HS(hs:List aI)(is:List Nat)(b:Addr):Prop:=∃i∈is,∃k,hs[i]? =some k∧k.addr=b
structure BP (w:World) (aa:Heap) (ae:Addr→Prop) (hs:List aI) (ps:Nat→Addr×Addr) (is:List Nat) (st af:St) (s s':Shared):Prop where
 inv:Inv w aa ae hs ps af s'
 aF:cy (HS hs is) s s'
 bc:cZ ps af st
theorem n6:cZ ps (st.set i (.val d)) st:=cZ.set fun _ q=>nomatch q
theorem HS.ho(h:HS hs is b):HO hs b:=h.elim fun i h=>h.2.elim fun k h=>⟨k,mem_of_getElem? h.1,h.2⟩
theorem Hd{env:Env}(KK:ef env sc nm hs)(hx:nm.lookup x=some i)(I:Inv w aa ae hs ps st s)(r:RV w s.heap (OO ae hs ps st) v d)(h:put st i false (.val d)=some af):
  wpAny (ah w) A (storeName env x v) (fun _ s'=>BP w aa ae hs ps [i] st af s s') aG s:=by
 refine aX h fun _ h=> ?_
 cases h
 exact(KK.at hx).elim fun k hk=>(I.nM hk).elim fun u hu=>vN KK hx hk hu fun h' tk q=>⟨I.put hk r q,⟨h',tk,rfl,fun b o e nn=>(q.same.2 b fun z=>nn ⟨i,mem_singleton.mpr rfl,k,hk,z.symm⟩).trans e,uM q⟩,n6⟩
theorem BP.mv(z:BP w aa ae hs ps is st af s s'):Mv s.heap s'.heap (OO ae hs ps st) (OO ae hs ps af):=⟨fun b o e nn=>z.aF.keep b o e fun q=>nn (.inr (.inl q.ho)),fun b _ nn q=>nn (z.bc.OO q)⟩
theorem Uk{A:Around}{env:Env}(KK:ef env sc nm hs):∀{is:List Nat} {es} {vs:List Value} {ds:List AV} {st af:St} {s:Shared},kD nm is es=true→Inv w aa ae hs ps st s→au w s.heap (OO ae hs ps st) vs ds→oh is ds st=some af→
  wpAny (ah w) A (assignInOrder ((assignEach es env).map (·.2)) vs) (fun _ s'=>BP w aa ae hs ps is st af s s') aG s:=fun {is}=>by
 induction is with
 |nil=>
  intro es vs ds st af s ht I r h
  cases ds with
  |nil=>
   cases h
   obtain rfl:vs=[]:=r
   obtain rfl:=isEmpty_iff.mp ht
   exact assignInOrder_nil ⟨I,.refl,.refl⟩
  |cons=>exact ba h
 |cons i is ih=>
  intro es vs ds st af s ht I r h
  cases ds with
  |nil=>exact ba h
  |cons d ds=>
   cases r with|mk a r=>
   refine aK h fun aj h1 h=> ?_
   refine AN ht fun x p er hx ht=> ?_
   exact assignInOrder_cons (assign_Name (wm (Hd KK hx I a h1) fun _ s1 z1=>wm (ih ht z1.inv (bW.mv z1.mv r) h) fun _ s2 z2=>⟨z2.inv,(z1.aF.mono fun b q=>.inl (q.elim fun j q=>⟨i,mem_cons_self ..,mem_singleton.mp q.1▸q.2⟩)).trans z2.aF fun b q=>.inl (q.elim fun j q=>⟨j,mem_cons_of_mem _ q.1,q.2⟩),z2.bc.trans z1.bc⟩))
theorem IK{env}:∀{is:List Nat} {es},kD nm is es=true→(assignEach es env).length=is.length∧(assignEach es env).findIdx? (·.1)=none:=fun {is}=>by
 induction is with
 |nil=>intro es ht;obtain rfl:=isEmpty_iff.mp ht;exact⟨rfl,rfl⟩
 |cons i is ih=>
  intro es ht
  refine AN ht fun x p er hx ht=> ?_
  have h:=ih ht
  exact⟨congrArg Nat.succ h.1,by show List.findIdx? _ ((false,assign (.Name x p) env)::assignEach er env)=none;rw[List.findIdx?_cons,h.2];rfl⟩
theorem ah7:∀{is:List Nat} {ds:List AV} {st af},oh is ds st=some af→is.length=ds.length:=fun {is}=>by
 induction is with
 |nil=>intro ds st af h;cases ds with
  |nil=>rfl
  |cons=>exact ba h
 |cons i is ih=>intro ds st af h;cases ds with
  |nil=>exact ba h
  |cons d ds=>exact aK h fun _ _ h=>congrArg Nat.succ (ih h)
theorem Bj{A:Around}{env:Env}{t:eO}{e:Expr}(KK:ef env sc nm hs)(hh:A.handled=none)(ht:l6 nm t e=true)(I:Inv w aa ae hs ps st s)(r:RV w s.heap (OO ae hs ps st) v d)(h:lC st t d=some af):
  wpAny (ah w) A (assign e env v) (fun _ s'=>BP w aa ae hs ps (pV t) st af s s') aG s:=by
 cases t with
 |one i=>exact Pw (C:=fun e=>wpAny (ah w) A (assign e env v) _ aG s) ht fun x p hx=>assign_Name (Hd KK hx I r h)
 |many is=>
  refine vU (C:=fun e=>wpAny (ah w) A (assign e env v) _ aG s) ht fun es k pos ht=> ?_
  revert r
  refine nJ (C:=fun d=>RV w s.heap _ v d→_) h fun l h r=> ?_
  cases r with|@mk a vs n x rs=>
  have q:=IK (env:=env) ht
  refine assign_Tuple_tuple hh x.jE (by rw[q.1,ah7 h,←rs.length];simp) q.2 fun h' he=> ?_
  have kp:Kp s {s with heap:=h'}:=⟨h',s.toks,rfl,fun b o e=>he b o (ne_of_lt (Heap.lt_size e)) e⟩
  exact wm (Uk KK ht (I.kp kp) (rs.mv kp.mv) h) fun _ s2 z2=>⟨z2.inv,(kp.aF (W:=HS hs is)).trans z2.aF (fun b q=>.inl q),z2.bc⟩
def Q1(w:World)(h:Heap)(G:Addr→Prop)(a:Addr)(d:Option AV)(v:Value):Prop:=match d with
 |some d=>RV w h G v d
 |none=>v=.ref a
noncomputable def RA(w:World)(h:Heap)(G:Addr→Prop)(a:Addr):List (Option AV)→List Value→Prop
 |[]=>fun vs=>vs=[]
 |r::rs=>cY (Q1 w h G a r) (RA w h G a rs)
section
theorem RA.mv(m:Mv h h' G G'):∀{rs:List (Option AV)} {vs},RA w h G a rs vs→RA w h' G' a rs vs:=fun {rs}=>by
 induction rs with
 |nil=>exact fun {vs} x=>x
 |cons r rs ih=>exact fun {vs} x=>x.map (fun v y=>by cases r with|none=>exact y|some d=>exact bk.mv m y) fun _ y=>ih y
theorem RA.to:∀{rs} {vs},dw rs=0→RA w h G b rs vs→RA w h G a rs vs:=fun {rs}=>by
 induction rs with
 |nil=>exact fun {vs} _ x=>x
 |cons r rs ih=>cases r with
  |none=>exact fun {vs} q=>nomatch q
  |some d=>exact fun {vs} q x=>x.map (fun v y=>y) fun _ y=>ih q y
theorem RA.app(y:RA w h G a vE us):∀{rs:List (Option AV)} {vs},RA w h G a rs vs→RA w h G a (rs++vE) (vs++us):=fun {rs}=>by
 induction rs with
 |nil=>exact fun {vs} x=>(show vs=[]from x)▸y
 |cons r rs ih=>intro vs x;cases x with|mk x z=>exact .mk x (ih z)
theorem RA.rev:∀{rs:List (Option AV)} {vs:List Value},RA w h G a rs vs→RA w h G a rs.reverse vs.reverse:=fun {rs}=>by
 induction rs with
 |nil=>exact fun {vs} x=>(show vs=[]from x)▸rfl
 |cons r rs ih=>intro vs x;cases x with|mk x z=>rw[reverse_cons,reverse_cons];exact RA.app (show RA w h G a [r] _ from .mk x rfl) (ih z)
theorem RA.len:∀{rs:List (Option AV)} {vs:List Value},RA w h G a rs vs→vs.length=rs.length:=fun {rs}=>by
 induction rs with
 |nil=>exact fun {vs} x=>congrArg List.length x
 |cons r rs ih=>exact fun {vs}=>cY.len (fun _=>ih) vs
end
theorem agy:∀a,dw (a++b)=dw a+dw b:=fun a=>by
 induction a with
 |nil=>exact(zero_add _).symm
 |cons x r ih=>cases x with
  |none=>exact(congrArg Nat.succ ih).trans (Nat.succ_add ..).symm
  |some d=>exact ih
theorem agz:∀rs:List (Option AV),dw rs.reverse=dw rs:=fun rs=>by
 induction rs with
 |nil=>rfl
 |cons x r ih=>rw[reverse_cons,agy,ih];cases x<;>rfl
structure QA (w:World) (aa:Heap) (ae:Addr→Prop) (hs:List aI) (ps:Nat→Addr×Addr) (st af:St) (s:Shared) (rs:List (Option AV)) (a:Addr) (F:Addr→Prop) (vs:List Value) (s':Shared):Prop where
 inv:Inv w aa (fun b=>ae b∨F b) hs ps af s'
 aF:cy (Own ps st) s s'
 bc:cZ ps af st
 new:∀b,F b→b=a∧s.heap.get? b=none
 one:dw rs=1→F a∧LstAt s'.heap a []
 r:RA w s'.heap (OO (fun b=>ae b∨F b) hs ps af) a rs vs
def oK(w:World)(aa:Heap)(T:Tab)(S:cf)(lv:Nat)(sc:Scope)(nm:List (Str×Nat))(n:Nat)(me:aR)(e:List Expr):Prop:=
 ∀{A} {env} {ae} {hs} {ps} {st} {s} {rs} {af} (pos),IS w aa lv sc nm n A env ae hs ps st s→
  qH T S me st=some (rs,af)→dw rs≤1→wpAny (ah w) A (spliced (backTo pos (starEach e env))) (fun vs s'=>∃a F,QA w aa ae hs ps st af s rs a F vs s') aG s
theorem Inv.more{F:Addr→Prop}(I:Inv w aa ae hs ps st s)(f:∀b,¬F b):Inv w aa (fun b=>ae b∨F b) hs ps st s:=I.pw Kp.refl fun b h=>(f b h).elim
theorem akw:oK w aa T S lv sc nm n .nil []:=by
 intro A env ae hs ps st s rs af pos X ao hn
 refine bY ao ?_
 exact wpAny_items_nil ⟨0,fun _=>False,X.I.more fun _ h=>h,.refl,.refl,fun _ h=>h.elim,(fun h=>nomatch h),rfl⟩
theorem aku(hn:notStar ea=true)(ha:SE w aa T S lv sc nm n a ea)(hr:oK w aa T S lv sc nm n r er):oK w aa T S lv sc nm n (.cons a r) (ea::er):=by
 intro A env ae hs ps st s rs af pos X ao mD
 refine aN ao fun d aj h1 e=>aN e fun ds bU h2 e=> ?_
 cases e
 exact wpAny_items_cons (wm (ha.f X h1) fun v s1 z1=>wm (hr pos (X.next z1.e) h2 mD) fun vs s2 z2=>z2.elim fun b z=>z.elim fun F z=>⟨b,F,z.inv,z1.e.aF.trans z.aF fun b o=>.inl (z1.e.bc.mem o),z.bc.trans z1.e.bc,fun c h=>⟨(z.new c h).1,z1.e.aF.gone c (z.new c h).2⟩,z.one,
  .mk (bk.mv ⟨fun c o e nn=>z.aF.keep c o e fun q=>nn (.inr (.inr q)),fun c e nn q=>q.elim (fun q=>q.elim (fun q=>nn (.inl q)) fun q=>isSome_none e (z.new c q).2) fun q=>nn (.inr (q.imp id z.bc.mem))⟩ z1.r) z.r⟩) (mZ hn)
theorem akv(hr:oK w aa T S lv sc nm n r er):oK w aa T S lv sc nm n (.new r) (.List [] p::er):=by
 intro A env ae hs ps st s rs af pos X ao mD
 refine aN ao fun ds bU h2 e=> ?_
 cases e
 have hz:dw ds=0:=Nat.le_zero.mp (Nat.le_of_succ_le_succ mD)
 refine wpAny_items_cons (wpAny_List (wpAny_items_nil ⟨zero_le _,?_⟩)) (mZ rfl)
 have k:Kp s {s with heap:=s.heap.push {cls:=.type "list",data:=.seq ([]:List Value).toArray}}:=Kp.og
 have new:(s.heap.push {cls:=.type "list",data:=.seq ([]:List Value).toArray}).get? s.heap.objs.size=some {cls:=.type "list",data:=.seq ([]:List Value).toArray}:=Heap.get?_push_size _ rfl
 have J:=X.I.pw (F:=fun b=>b=s.heap.objs.size) k fun b h=>h▸⟨dU,isSome_of_eq_some new⟩
 exact wm (hr pos ⟨X.R,X.K,J,X.L⟩ h2 (hz▸zero_le _)) fun vs s2 z2=>z2.elim fun b z=>z.elim fun F z=>⟨s.heap.objs.size,fun b=>b=s.heap.objs.size,z.inv.less fun b q=>.inl q,k.aF.trans z.aF fun b o=>.inl o,z.bc,fun b h=>⟨h,h▸dU⟩,fun _=>⟨rfl,zero_le _,0,z.aF.keep _ _ new fun q=>isSome_none (X.I.bB _ (.inr (.inr q))) dU⟩,
  .mk rfl (RA.mv (Mv.less fun c q=>q.imp .inl id) (RA.to hz z.r))⟩
theorem NR{i:Nat}{k:aI}{tk:Nat}(hk:hs[i]? =some k)(p:m8 s.heap h' k v):cy (HO hs) s {s with heap:=h',toks:=tk}:=
 ⟨h',tk,rfl,fun b o e n=>(p.same.2 b fun z=>n ⟨k,mem_of_getElem? hk,z.symm⟩).trans e,uM p⟩
def Q5(w:World)(env:Env)(x:Str)(f:Value→Sem Unit):Prop:=∀{A} {v} {Q} {E} {s},wpAny (ah w) A (storeName env x v) Q E s→wpAny (ah w) A (f v) Q E s
noncomputable def kI(w:World)(env:Env):List Str→List (Value→Sem Unit)→Prop
 |[]=>fun fs=>fs=[]
 |x::xs=>cY (Q5 w env x) (kI w env xs)
noncomputable def fY(nm:List (Str×Nat)):List Str→List Nat→Prop
 |[]=>fun is=>is=[]
 |x::xs=>cY (fun i=>nm.lookup x=some i) (fY nm xs)
theorem fY.app(y:fY nm xs' is'):∀{xs:List Str} {is},fY nm xs is→fY nm (xs++xs') (is++is'):=fun {xs}=>by
 induction xs with
 |nil=>exact fun {is} x=>(show is=[]from x)▸y
 |cons r rs ih=>intro is x;cases x with|mk x z=>exact .mk x (ih z)
theorem fY.rev:∀{xs:List Str} {is:List Nat},fY nm xs is→fY nm xs.reverse is.reverse:=fun {xs}=>by
 induction xs with
 |nil=>exact fun {is} x=>(show is=[]from x)▸rfl
 |cons r rs ih=>intro is x;cases x with|mk x z=>rw[reverse_cons,reverse_cons];exact fY.app (show fY nm [r] _ from .mk x rfl) (ih z)
theorem kI.bind{env}(xs:List Str):kI w env xs (xs.map fun x=>bindName env x):=by
 induction xs with
 |nil=>rfl
 |cons x r ih=>exact .mk (fun h=>bindName_ h) ih
theorem kI.each{env}:∀{is} {es},kD nm is es=true→∃xs,kI w env xs ((assignEach es env).map (·.2))∧fY nm xs is:=fun {is}=>by
 induction is with
 |nil=>intro es ht;obtain rfl:=isEmpty_iff.mp ht;exact⟨[],rfl,rfl⟩
 |cons i is ih=>
  intro es ht
  refine AN ht fun x p er hx ht=> ?_
  exact(ih ht).elim fun xs h=>⟨x::xs,.mk (fun h=>assign_Name h) h.1,.mk hx h.2⟩
structure PL (w:World) (aa:Heap) (ae:Addr→Prop) (hs:List aI) (ps:Nat→Addr×Addr) (st af:St) (s s':Shared):Prop where
 sp:SP w aa ae hs ps ps st af s s'
 bc:cZ ps af st
 aF:cy (HO hs) s s'
theorem NQ{A:Around}{env:Env}(KK:ef env sc nm hs){G:Addr→Prop}:∀{xs:List Str} {is:List Nat} {fs} {vs:List Value} {rs:List (Option AV)} {st af:St} {s:Shared},kI w env xs fs→fY nm xs is→dw rs=0→Inv w aa ae hs ps st s→
  (∀b,OO ae hs ps st b→G b)→RA w s.heap G a rs vs→hZ is rs st=some af→wpAny (ah w) A (assignInOrder fs vs) (fun _ s'=>PL w aa ae hs ps st af s s') aG s:=fun {xs}=>by
 induction xs with
 |nil=>
  intro is fs vs rs st af s hf hl hz I hG r h
  obtain rfl:fs=[]:=hf
  obtain rfl:is=[]:=hl
  cases rs with
  |nil=>
   obtain rfl:vs=[]:=r
   cases h
   exact assignInOrder_nil ⟨(EP.refl I).sp,.refl,.refl⟩
  |cons=>exact ba h
 |cons x xs ih=>
  intro is fs vs rs st af s hf hl hz I hG r h
  cases hf with|mk hf xT=>
  cases hl with|mk hx hl=>
  cases rs with
  |nil=>exact ba h
  |cons d rs=>cases d with
   |none=>exact nomatch hz
   |some d=>
    cases r with|mk a r=>
    refine aK h fun aj h1 h=>aX h1 fun _ h1=> ?_
    cases h1
    refine(KK.at hx).elim fun k hk=>(I.nM hk).elim fun u hu=>assignInOrder_cons (hf (vN KK hx hk hu fun h' tk q=> ?_))
    have z1:=I.rM (tk:=tk) hk (bk.mv (Mv.less hG) a) q
    exact wm (ih xT hl (show dw rs=0 from hz) z1.inv (fun b o=>hG b (n6.OO o)) (RA.mv ⟨fun b o e nn=>(q.same.2 b fun z=>nn (z▸hG _ (.inr (.inl ⟨k,mem_of_getElem? hk,rfl⟩)))).trans e,fun _ _ nn=>nn⟩ r) h) fun _ s2 z2=>⟨z1.trans z2.sp,z2.bc.trans n6,(NR hk q).trans z2.aF fun b o=>.inl o⟩
structure PA (w:World) (aa:Heap) (ae:Addr→Prop) (hs:List aI) (ps aE:Nat→Addr×Addr) (F:Addr→Prop) (st af:St) (s s':Shared):Prop where
 inv:Inv w aa ae hs aE af s'
 aF:cy (fun b=>HO hs b∨Own ps st b) s s'
 own:∀b,Own aE af b→Own ps st b∨F b
 len:af.length=st.length
 fst:∀c',af.get 0=.own c'→∃c,st.get 0=.own c∧aE 0=ps 0∧∀b,c'.aU (aE 0) b→c.aU (ps 0) b
theorem D4(hl:i<st.length)(o:Own (oE ps i p) (st.set i (.own c)) b):Own ps st b∨c.aU p b:=
 o.elim fun j o=>o.elim fun d o=>mP (ps:=ps) (p:=p) hl o.1 (fun _ e z=>.inr (by have:=o.2;rw[z,e]at this;exact this)) fun _ e z=>.inl ⟨j,d,e,z▸o.2⟩
theorem ahZ{A:Around}{env:Env}(KK:ef env sc nm hs):∀{xs:List Str} {is:List Nat} {fs} {vs:List Value} {rs:List (Option AV)} {st af:St} {s:Shared},kI w env xs fs→fY nm xs is→dw rs=1→Inv w aa (fun b=>ae b∨b=a) hs ps st s→
  LstAt s.heap a []→¬OO ae hs ps st a→RA w s.heap (OO (fun b=>ae b∨b=a) hs ps st) a rs vs→hZ is rs st=some af→wpAny (ah w) A (assignInOrder fs vs) (fun _ s'=>∃aE,PA w aa ae hs ps aE (fun b=>b=a) st af s s') aG s:=fun {xs}=>by
 induction xs with
 |nil=>
  intro is fs vs rs st af s hf hl hz I la nO r h
  obtain rfl:is=[]:=hl
  cases rs with
  |nil=>exact nomatch hz
  |cons=>exact ba h
 |cons x xs ih=>
  intro is fs vs rs st af s hf hl hz I la nO r h
  cases hf with|mk hf xT=>
  cases hl with|@mk i is hx hl=>
  cases rs with
  |nil=>exact nomatch hz
  |cons d rs=>
   cases r with|@mk v vs r1 r2=>
   refine aK h fun aj h1 h=>(KK.at hx).elim fun k hk=>(I.nM hk).elim fun u hu=>assignInOrder_cons (hf (vN KK hx hk hu fun h' tk q=> ?_))
   have hH:HO hs k.addr:=⟨k,mem_of_getElem? hk,rfl⟩
   have na:a≠k.addr:=fun z=>nO (z▸.inr (.inl hH))
   have m:∀{O'},(∀b,O' b→OO (fun b=>ae b∨b=a) hs ps st b)→Mv s.heap h' (OO (fun b=>ae b∨b=a) hs ps st) O':=fun f=>⟨fun b o e nn=>(q.same.2 b fun z=>nn (z▸.inr (.inl hH))).trans e,fun b _ nn q=>nn (f b q)⟩
   cases d with
   |some d=>
    refine aX h1 fun _ h1=> ?_
    cases h1
    have z1:=I.rM (tk:=tk) hk r1 q
    exact wm (ih xT hl (show dw rs=1 from hz) z1.inv (la.move fun o e=>(q.same.2 a na).trans e) (fun o=>nO (n6.OO o)) (RA.mv (m fun b=>n6.OO) r2) h) fun _ s2 z2=>z2.elim fun aE y=>⟨aE,y.inv,z1.aF.trans y.aF fun b o=>.inl (o.imp id n6.mem),fun b o=>(y.own b o).imp n6.mem id,y.len.trans length_set,fun c' e=>(y.fst c' e).elim fun c k=>set_own k.1 (fun _ q=>nomatch q) fun _ e=>⟨c,e,k.2⟩⟩
   |none=>
    obtain rfl:v=.ref a:=r1
    refine aX h1 fun hc h1=>aS hc fun _ hc=> ?_
    cases h1
    have hi:i≠0:=fun q=>by rw[q]at hc;cases hc
    have gG:=I.uo hk
    have K1:=Inv.Eb (c:=.lst []) (p:=(a,0)) (tk:=tk) I hk ⟨[],la,rfl⟩ (fun b (o:b=a)=>o▸nO) q
    exact wm (NQ KK xT hl (Nat.succ.inj hz) K1 (G:=OO (fun b=>ae b∨b=a) hs ps st) (fun b o=>o.elim (fun o=>.inl (.inl o)) fun o=>o.elim (fun o=>.inr (.inl o)) fun o=>(D4 gG o).elim (fun o=>.inr (.inr o)) fun o=>.inl (.inr o)) (RA.mv (m fun _ x=>x) r2) h) fun _ s2 z2=>
     ⟨_,z2.sp.inv,((NR hk q).trans z2.aF fun b o=>.inl o).mono fun b o=>.inl (.inl o),fun b o=>D4 gG (z2.bc.mem o),z2.bc.len.trans length_set,fun c' e=>(z2.bc.own 0 c' e).elim fun c z=>mP (ps:=ps) (p:=(a,0)) gG z.1 (fun q=>absurd q.symm hi) fun _ e2 e3=>⟨c,e2,e3,fun b o=>e3▸z.2 b o⟩⟩
theorem ahY{env:Env}(KK:ef env sc nm hs)(hf:kI w env xs fs)(hl:fY nm xs is)(hn:dw rs≤1)(I:Inv w aa (fun b=>ae b∨F b) hs ps st s)
  (hF:∀b,F b→b=a) (h1:dw rs=1→F a∧LstAt s.heap a []) (nO:∀b,F b→¬OO ae hs ps st b) (r:RA w s.heap (OO (fun b=>ae b∨F b) hs ps st) a rs vs) (h:hZ is rs st=some af):
  wpAny (ah w) A (assignInOrder fs vs) (fun _ s'=>∃aE,PA w aa ae hs ps aE F st af s s') aG s:=by
 by_cases hz:dw rs=0
 ·exact wm (NQ KK hf hl hz I (fun _ o=>o) r h) fun _ s2 z2=>⟨ps,z2.sp.inv.less fun b q=>.inl q,z2.sp.aF,fun b o=>.inl (z2.bc.mem o),z2.sp.len,z2.sp.fst⟩
 ·have qW:dw rs=1:=le_antisymm hn (Nat.pos_of_ne_zero hz)
  have f:=h1 qW
  have k:∀b,(ae b∨b=a)→ae b∨F b:=fun b q=>q.imp id fun(z:b=a)=>z▸f.1
  exact wm (ahZ KK hf hl qW (I.less k) f.2 (nO a f.1) (RA.mv (Mv.less fun b q=>q.imp (k b) id) r) h) fun _ s2 z2=>z2.imp fun aE y=>⟨y.inv,y.aF,fun b o=>(y.own b o).imp id fun(z:b=a)=>z▸f.1,y.len,y.fst⟩
end
end
section
section
variable {ae:Addr→Prop} {hs:List aI} {ps:Nat→Addr×Addr} {st:St} {s:Shared}
theorem Inv.chg{W:Addr→Prop}{s':Shared}(I:Inv w aa ae hs ps st s)(k:cy W s s')(h:∀b,W b→ae b∧¬HO hs b):Inv w aa ae hs ps st s' where
 len:=I.len
 nodup:=I.nodup
 stat:=fun b o e=>k.keep b o (I.stat b o e) fun q=>ez e (I.old b (.inl (h b q).1))
 bB:=fun b x=>by
  cases q:s'.heap.get? b with
  |some _=>rfl
  |none=>exact(isSome_none (I.bB b x) (k.gone b q)).elim
 old:=I.old
 slot:=fun i j e=>(I.slot i j e).mv (fun o q=>k.keep _ _ q fun z=>(h _ z).2 ⟨j,mem_of_getElem? e,rfl⟩) (fun c hc b o x e=>k.keep b o e fun z=>(I.apart i c b hc x).1 (h b z).1) ⟨fun b o e nn=>k.keep b o e fun q=>nn (.inl (h b q).1),fun _ _ nn=>nn⟩
 apart:=I.apart
theorem sX{st:St}{k j}:St.get (st++replicate k .no) j=st.get j:=by
 unfold St.get
 rw[getD_eq_getElem?_getD,getD_eq_getElem?_getD,List.getElem?_append]
 by_cases h:j<st.length
 ·rw[if_pos h]
 ·rw[if_neg h,getElem?_eq_none (le_of_not_lt h),List.getElem?_replicate]
  by_cases h':j-st.length<k
  ·rw[if_pos h'];rfl
  ·rw[if_neg h']
theorem Pr{st:St}{k j}:St.get (st.take k) j=if j<k then st.get j else .no:=by
 unfold St.get
 rw[getD_eq_getElem?_getD,getD_eq_getElem?_getD,List.getElem?_take]
 by_cases h:j<k
 ·rw[if_pos h,if_pos h]
 ·rw[if_neg h,if_neg h];rfl
theorem AK{st:St}{k j:Nat}{c:AC}(e:St.get (st.take k) j=.own c):st.get j=.own c:=by
 rw[Pr]at e
 by_cases h:j<k
 ·rwa [if_pos h]at e
 ·rw[if_neg h]at e;cases e
theorem Own.app{k}{b}:Own ps (st++replicate k .no) b→Own ps st b:=fun x=>x.imp fun i x=>x.imp fun c x=>⟨sX.symm.trans x.1,x.2⟩
theorem Own.tk{k:Nat}{b:Addr}:Own ps (st.take k) b→Own ps st b:=fun x=>x.imp fun i x=>x.imp fun c x=>⟨AK x.1,x.2⟩
theorem HO.app{di}{b}:HO (hs++di) b→HO hs b∨HO di b:=fun x=>x.elim fun k x=>(mem_append.mp x.1).imp (fun h=>⟨k,h,x.2⟩) fun h=>⟨k,h,x.2⟩
theorem HO.loc{C}{xs:List Str}{b}:HO (xs.map (aI.loc C)) b→b=C:=fun x=>x.elim fun k x=>(mem_map.mp x.1).elim fun y h=>x.2.symm.trans (h.2▸rfl)
theorem Inv.ext{C:Addr}{xs:List Str}{m:Str→Option Value}(I:Inv w aa ae hs ps st s)(hC:s.heap.Ns C m)(hO:ae C)(hn:¬HO hs C)(hx:xs.Nodup):Inv w aa ae (hs++xs.map (aI.loc C)) ps (st++replicate xs.length .no) s:=by
 have oo:∀b,OO ae (hs++xs.map (aI.loc C)) ps (st++replicate xs.length .no) b→OO ae hs ps st b:=fun b x=>x.elim .inl fun x=>x.elim (fun x=>x.app.elim (fun x=>.inr (.inl x)) fun x=>.inl (x.loc▸hO)) fun x=>.inr (.inr x.app)
 exact
 {len:=by simp[I.len]
  nodup:=nodup_append.mpr ⟨I.nodup,List.pairwise_map.mpr (hx.imp fun h e=>h (by cases e;rfl)),fun a ha b hb e=>hn ((show HO (xs.map (aI.loc C)) b.addr from⟨b,hb,rfl⟩).loc▸⟨b,e▸ha,rfl⟩)⟩
  stat:=I.stat
  bB:=fun b x=>I.bB b (oo b x)
  old:=fun b x=>I.old b (oo b x)
  slot:=fun i k e=>by
   rw[sX]
   rw[List.getElem?_append]at e
   by_cases hl:i<hs.length
   ·rw[if_pos hl]at e
    exact(I.slot i k e).mv (fun _ e=>e) (fun _ _ _ _ _ e=>e) (Mv.less oo)
   ·rw[if_neg hl]at e
    rw[Cn (by rw[I.len];exact le_of_not_lt hl)]
    exact(mem_map.mp (mem_of_getElem? e)).elim fun x q=>q.2▸⟨m x,m,hC,rfl⟩
  apart:=fun i c b e o=>
   have n:=I.apart i c b (sX.symm.trans e) o
   ⟨n.1,fun q=>q.app.elim n.2.1 fun q=>n.1 (q.loc▸hO),fun j c' hj z=>n.2.2 j c' hj (sX.symm.trans z)⟩}
theorem Inv.al6{ext:List aI}{di:List aI}(I:Inv w aa ae di ps st s)(e:di=hs++ext):Inv w aa ae hs ps (st.take hs.length) s:=by
 subst e
 have hl:=I.len
 rw[length_append]at hl
 have ho:∀b,HO hs b→HO (hs++ext) b:=fun b q=>q.imp fun k q=>⟨mem_append_left _ q.1,q.2⟩
 have oo:∀b,OO ae hs ps (st.take hs.length) b→OO ae (hs++ext) ps st b:=fun b x=>x.imp id fun x=>x.imp (ho b) fun x=>x.tk
 exact
 {len:=by rw[length_take];exact min_eq_left (hl.symm▸le_add_right ..)
  nodup:=(nodup_append.mp I.nodup).1
  stat:=I.stat
  bB:=fun b x=>I.bB b (oo b x)
  old:=fun b x=>I.old b (oo b x)
  slot:=fun i k e=>by
   have hi:=(List.getElem?_eq_some_iff.mp e).1
   rw[Pr,if_pos hi]
   exact(I.slot i k ((getElem?_append_left hi).trans e)).mv (fun _ e=>e) (fun _ _ _ _ _ e=>e) (Mv.less oo)
  apart:=fun i c b e o=>
   have n:=I.apart i c b (AK e) o
   ⟨n.1,fun q=>n.2.1 (ho b q),fun j c' hj z=>n.2.2 j c' hj (AK z)⟩}
noncomputable def kx(scope sc:Scope):Scope:={scope with names:=scope.names.map fun(n,k)=>if(k==.free&&sc.kind==.function&&sc.names.lookup n==some .cell)then(n,.cell)else(n,k)}
theorem ajb{scope sc:Scope}(hk:sc.kind=.function){x:Str}(hx:sc.names.lookup x=some .cell):∀{names:List (Str×NameKind)},names.lookup x=some .free→(names.map fun(n,k)=>if(k==NameKind.free&&sc.kind==.function&&sc.names.lookup n==some .cell)then(n,NameKind.cell)else(n,k)).lookup x=some .cell:=fun {names}=>by
 induction names with
 |nil=>exact fun h=>nomatch h
 |cons p r ih=>
  intro h
  rw[map_cons]
  cases uv:x==p.1 with
  |true=>
   rw[lookup_cons,uv]at h
   have h:p.2=.free:=Option.some.inj h
   show List.lookup x ((if(p.2==NameKind.free&&sc.kind==.function&&sc.names.lookup p.1==some .cell)=true then(p.1,NameKind.cell)else(p.1,p.2))::_)=_
   rw[h,←eq_of_beq uv,hx,hk]
   show List.lookup x ((x,NameKind.cell)::_)=_
   rw[lookup_cons,beq_self_eq_true]
  |false=>
   rw[lookup_cons,uv]at h
   have:(x==(if(p.2==NameKind.free&&sc.kind==.function&&sc.names.lookup p.1==some .cell)=true then(p.1,NameKind.cell)else(p.1,p.2)).1)=false:=by
    by_cases hc:(p.2==NameKind.free&&sc.kind==.function&&sc.names.lookup p.1==some .cell)=true
    ·rw[if_pos hc];exact uv
    ·rw[if_neg hc];exact uv
   exact(show List.lookup x ((if(p.2==NameKind.free&&sc.kind==.function&&sc.names.lookup p.1==some .cell)=true then(p.1,NameKind.cell)else(p.1,p.2))::_)=_ by rw[lookup_cons,this]).trans (ih h)
theorem ajc{sc:Scope}:∀{names:List (Str×NameKind)} {x},names.lookup x=some .local→(names.map fun(n,k)=>if(k==NameKind.free&&sc.kind==.function&&sc.names.lookup n==some .cell)then(n,NameKind.cell)else(n,k)).lookup x=some .local:=
 fun h=>lookup_relabel_local (env:={scope:=sc,locals:=0,globals:=0,cells:=[],qual:=⟨#[]⟩}) h
theorem Wh{env:Env}:∀(names:List (Str×NameKind)) (acc:List (Str×Addr)),(∀x,(x,NameKind.free)∈names→(env.cells.lookup x).isSome=true)→
  ∃cl,(forIn names acc fun(p:Str×NameKind) cs=>(if p.2==.free then do pure (ForInStep.yield ((p.1,←cellOf env p.1)::cs))else pure (ForInStep.yield cs):Sem (ForInStep (List (Str×Addr)))))=pure cl∧∀x,(x,NameKind.free)∈names∨acc.lookup x=env.cells.lookup x→cl.lookup x=env.cells.lookup x:=fun names=>by
 induction names with
 |nil=>exact fun acc h=>⟨acc,rfl,fun x h=>h.elim (fun h=>nomatch h) id⟩
 |cons p r ih=>
  intro acc h
  obtain⟨y,k⟩:=p
  rw[forIn_cons]
  by_cases hk:k=.free
  ·subst hk
   refine(isSome_iff_exists.mp (h y (mem_cons_self ..))).elim fun c hc=>(ih ((y,c)::acc) fun x hx=>h x (mem_cons_of_mem _ hx)).imp fun cl z=>⟨?_,fun x hx=>z.2 x ?_⟩
   ·show((cellOf env y>>=fun c=>pure (ForInStep.yield ((y,c)::acc)))>>=_)=_
    unfold cellOf
    rw[hc]
    exact z.1
   ·by_cases C8:x=y
    ·exact .inr (by rw[C8,lookup_cons,beq_self_eq_true];exact hc.symm)
    ·exact hx.imp (fun hx=>(mem_cons.mp hx).elim (fun q=>absurd (congrArg Prod.fst q) C8) id) fun hx=>by rw[lookup_cons,beq_false_of_ne C8];exact hx
  ·refine(ih acc fun x hx=>h x (mem_cons_of_mem _ hx)).imp fun cl z=>⟨?_,fun x hx=>z.2 x (hx.imp (fun hx=>(mem_cons.mp hx).elim (fun q=>absurd (congrArg Prod.snd q).symm hk) id) id)⟩
   dsimp only
   rw[beq_false_of_ne hk]
   exact z.1
theorem Wg{scope:Scope}{env:Env}(h:∀x,(x,NameKind.free)∈scope.names→(env.cells.lookup x).isSome=true):∃cl,closureFor scope env=pure cl∧∀x,(x,NameKind.free)∈scope.names→cl.lookup x=env.cells.lookup x:=by
 refine(Wh scope.names [] h).imp fun cl z=>⟨?_,fun x hx=>z.2 x (.inl hx)⟩
 unfold closureFor
 dsimp only
 have e':(forIn scope.names ([]:List (Str×Addr)) fun x __s=>(match x with
   |(name,kind)=>if(kind==NameKind.free)=true then do
     let __do_lift ←cellOf env name
     pure (ForInStep.yield ((name,__do_lift)::__s))
    else pure (ForInStep.yield __s):Sem (ForInStep (List (Str×Addr)))))=pure cl:=z.1
 rw[e']
 rfl
noncomputable def ags(nm:List (Str×Nat))(n:Nat)(scope:Scope)(xs:List Str)(y:Str×Nat):Bool:=(decide (n≤y.2)&&xs[y.2-n]? ==some y.1)||(nm.lookup y.1==some y.2&&scope.names.lookup y.1==some .free)
noncomputable def ajT(sc:Scope)(nm:List (Str×Nat))(scope:Scope)(y:Str×NameKind):Bool:=y.2!=.cell&&(y.2!=.local||scope.names.lookup y.1==some .local)&&(y.2!=.free||(sc.names.lookup y.1==some .cell&&(nm.lookup y.1).isSome))
def qy(sc:Scope)(nm:List (Str×Nat))(n:Nat)(scope:Scope)(xs:List Str)(du:List (Str×Nat)):Bool:=
 scope.kind==.function&&sc.kind==.function&&scope.names.all (ajT sc nm scope)&&((xs.all fun x=>scope.names.lookup x==some .local)&&decide xs.Nodup&& !xs.isEmpty&&du.all (ags nm n scope xs))
structure Fj (sc:Scope) (nm:List (Str×Nat)) (n:Nat) (scope:Scope) (xs:List Str) (du:List (Str×Nat)):Prop where
 k:scope.kind=.function
 k':sc.kind=.function
 cell:∀x,(x,NameKind.cell)∉scope.names
 loc:∀x,(x,NameKind.local)∈scope.names→scope.names.lookup x=some .local
 xC:∀x,(x,NameKind.free)∈scope.names→sc.names.lookup x=some .cell∧(nm.lookup x).isSome=true
 ls:∀x∈xs,scope.names.lookup x=some .local
 nodup:xs.Nodup
 ne:xs.isEmpty=false
 Nq:∀x i,du.lookup x=some i→(n≤i∧xs[i-n]? =some x)∨(nm.lookup x=some i∧scope.names.lookup x=some .free)
theorem D0{a b:Bool}(h:(a||b)=true):a=true∨b=true:=or_eq_true_iff.mp h
theorem WL{scope:Scope}{xs:List Str}{du:List (Str×Nat)}(ok:qy sc nm n scope xs du=true):Fj sc nm n scope xs du:=
 gW ok fun h1 h2 h3 h4=>gW h4 fun h4 h5 h6 h7=>
 have f:=fun x k (h:(x,k)∈scope.names)=>all_eq_true.mp h3 _ h
 {k:=eq_of_beq h1,k':=eq_of_beq h2
  cell:=fun x h=>eE (f x _ h) fun a _ _=>nomatch a
  loc:=fun x h=>eE (f x _ h) fun _ a _=>(D0 a).elim (fun h=>nomatch h) eq_of_beq
  xC:=fun x h=>eE (f x _ h) fun _ _ a=>(D0 a).elim (fun h=>nomatch h) fun h=>aS h fun a b=>⟨eq_of_beq a,b⟩
  ls:=fun x h=>eq_of_beq (all_eq_true.mp h4 x h)
  nodup:=of_decide_eq_true h5
  ne:=(not_eq_true' _).mp h6
  Nq:=fun x i h=>(D0 (all_eq_true.mp h7 _ (PySem.mem_of_lookup h))).imp (fun h=>aS h fun a b=>⟨of_decide_eq_true a,eq_of_beq b⟩) fun h=>aS h fun a b=>⟨eq_of_beq a,eq_of_beq b⟩}
theorem WM{scope:Scope}{xs:List Str}{du:List (Str×Nat)}{env:Env}{C:Addr}{cl:List (Str×Addr)}(ok:Fj sc nm n scope xs du)(KK:ef env sc nm hs)(hl:hs.length=n)(nN:∀x,(x,NameKind.free)∈scope.names→cl.lookup x=env.cells.lookup x):
  ef (compEnvC scope cl C env) (kx scope sc) du (hs++xs.map (aI.loc C)):=
 ⟨by show relabel scope env=_;unfold relabel kx Env.kindOf;rw[KK.scope],ok.k,KK.globals,KK.builtins,fun x i hx=>(ok.Nq x i hx).elim
  (fun h=>.inl ⟨ajc (ok.ls x (mem_of_getElem? h.2)),by rw[getElem?_append_right (hl▸h.1),hl,getElem?_map,h.2];rfl⟩)
  fun h=>have hm:=PySem.mem_of_lookup h.2
   (KK.ph x i h.1).elim (fun q=>nomatch (ok.xC x hm).1.symm.trans q.1) fun q=>.inr ⟨ajb (scope:=scope) ok.k' q.1 h.2,q.2.elim fun c q=>⟨c,(nN x hm).trans q.1,(getElem?_append_left (List.getElem?_eq_some_iff.mp q.2).1).trans q.2⟩⟩⟩
end
end
section
section
variable {ae:Addr→Prop} {hs:List aI} {ps:Nat→Addr×Addr} {st:St} {s:Shared} {A:Around}
theorem jJ(h:wpAny M A t Q aG s):wpAny M A t Q E s:=wpAny_mono h (fun _ _ x=>x) fun _ _ x=>x.elim
theorem WS{env:Env}(I:Nat→Shared→Prop)
  (turn:∀n s,I n s→wpAny (ah w) A (pyNext it) (fun r bV=>match r with
   |none=>R (.ok .next) bV
   |some v=>wpAny (ah w) A (letOwnedTupleGo target it v) (fun _ bV=>wpAny (ah w) A (assign target env v) (fun _ vR=>
     wpAny (ah w) A (forIn ifs true fun c r=>if r=true then do let ok ←isTrue c env (eval c env);pure (ForInStep.yield ok)else pure (ForInStep.yield r)) (fun ok lZ=>
      if ok=true then wpAny (ah w) A (eval elt env) (fun x Pp=>wpAny (ah w) A (call (.builtin "list.append") [acc,x]) (fun _ Pq=>∃m,m<n∧I m Pq) aG Pp) aG lZ
      else ∃m,m<n∧I m lZ) aG vR) aG bV) aG bV) aG s)
  (n:Nat) (h:I n s):codeAny (ah w) A (.compLoop (.ListComp elt [⟨target,iter,ifs,0⟩] scope pos) 0 it acc env) R s:=by
 refine codeAny_loop rfl I (fun n s hI=> ?_) n h
 show wpAny _ A ((compTurn (.ListComp elt [⟨target,iter,ifs,0⟩] scope pos) 0 it acc env).onRaise (fun x=>do noteFrame x env;theTreesLotGoes x)) _ _ s
 refine wpAny_noted ?_
 rw[compTurn_list]
 refine wpAny_bind (wpAny_standAt (wpAny_bind (jJ (wm (turn n s hI) fun r bV gH=> ?_))))
 cases r with
 |none=>exact wpAny_pure gH
 |some v=>
  refine wpAny_bind (jJ (wm gH fun _ bV gH=>wpAny_bind (jJ (wm gH fun _ vR ux=>wpAny_bind (jJ (wm ux fun ok lZ mG=> ?_))))))
  cases ok with
  |false=>exact wpAny_pure ⟨rfl,mG⟩
  |true=>
   exact wpAny_bind (wpAny_bind (jJ (wm mG fun x Pp ab1=>wpAny_bind (jJ (wm ab1 fun _ Pq ab2=>wpAny_pure (wpAny_pure ⟨rfl,ab2⟩))))))
theorem aaz{env:Env}(I:Nat→Shared→Prop)
  (turn:∀n s,I n s→wpAny (ah w) A (pyNext it) (fun r bV=>match r with
   |none=>R (.ok .next) bV
   |some v=>wpAny (ah w) A (letOwnedTupleGo target it v) (fun _ bV=>wpAny (ah w) A (assign target env v) (fun _ vR=>wpAny (ah w) A (execs body env) (fun f lZ=>match f with
     |.next=>∃m,m<n∧I m lZ
     |.ret v=>R (.ok (.ret v)) lZ
     |_=>False) aG vR) aG bV) aG bV) aG s)
  (n:Nat) (h:I n s):codeAny (ah w) A (.forLoop target it body [] env) R s:=by
 refine codeAny_loop' rfl I (fun n s hI=> ?_) n h
 show wpAny _ _ ((forTurn target it body [] env).onRaise (fun x=>do noteFrame x env;theTreesLotGoes x)) _ _ s
 refine wpAny_noted ?_
 simp only[forTurn]
 refine wpAny_bind (wpAny_standAt (wpAny_bind (wpAny_onRaise (jJ (wm (turn n s hI) fun r bV gH=> ?_)))))
 cases r with
 |none=>exact wpAny_pure (.inr ⟨rfl,codeAny_block (wpAny_execs_nil gH)⟩)
 |some v=>
  refine wpAny_bind (jJ (wm gH fun _ bV gH=>wpAny_bind (jJ (wm gH fun _ vR ux=>wpAny_bind (jJ (wm ux fun f lZ mG=> ?_))))))
  cases f with
  |next=>exact wpAny_pure (.inl ⟨rfl,mG⟩)
  |cont=>exact mG.elim
  |brk=>exact mG.elim
  |ret v=>exact wpAny_pure mG
def mh(w:World)(aa:Heap)(T:Tab)(S:cf)(lv:Nat)(sc:Scope)(nm:List (Str×Nat))(n:Nat)(cond:MO)(ifs:List Expr):Prop:=
 ∀{A} {env} {ae} {hs} {ps} {st} {s} {b} {af},IS w aa lv sc nm n A env ae hs ps st s→
  fL T S cond st=some (b,af)→wpAny (ah w) A (forIn ifs true fun c r=>if r=true then do let ok ←isTrue c env (eval c env);pure (ForInStep.yield ok)else pure (ForInStep.yield r)) (QT w aa ae hs ps st af s b) aG s
theorem akI:mh w aa T S lv sc nm n .no []:=by
 intro A env ae hs ps st s b af X ao
 refine bY ao ?_
 exact wpAny_tests_nil ⟨rfl,X.refl⟩
theorem akJ(hc:ST w aa T S lv sc nm n c ec):mh w aa T S lv sc nm n (.yes c) [ec]:=by
 intro A env ae hs ps st s b af X ao
 exact wpAny_tests_one (hc X ao)
def Fy(X W:Addr→Prop)(s s':Shared):Prop:=∃h' tk,s'={s with heap:=h',toks:=tk}∧(∀b o,s.heap.get? b=some o→¬W b→h'.get? b=some o)∧∀b,¬X b→h'.get? b=none→s.heap.get? b=none
theorem DD(I:Inv w aa ae hs ps st s)(ha:ae a∧¬HO hs a)(b)(x:OO (fun b=>ae b∧b≠a) hs ps st b):OO ae hs ps st b∧b≠a:=
 x.elim (fun x=>⟨.inl x.1,x.2⟩) fun x=>x.elim (fun x=>⟨.inr (.inl x),fun q=>ha.2 (q▸x)⟩) fun x=>⟨.inr (.inr x),fun q=>x.elim fun i x=>x.elim fun c x=>(I.apart i c b x.1 x.2).1 (q▸ha.1)⟩
theorem Inv.yG{tk:Nat}(I:Inv w aa ae hs ps st s)(ha:ae a∧¬HO hs a)(k:∀b o,b≠a→s.heap.get? b=some o→h'.get? b=some o):Inv w aa (fun b=>ae b∧b≠a) hs ps st {s with heap:=h',toks:=tk} where
 len:=I.len
 nodup:=I.nodup
 stat:=fun b o e=>k b o (fun q=>ez e (q▸I.old a (.inl ha.1))) (I.stat b o e)
 bB:=fun b x=>have z:=DD I ha b x;(isSome_iff_exists.mp (I.bB b z.1)).elim fun o e=>isSome_of_eq_some (k b o z.2 e)
 old:=fun b x=>I.old b (DD I ha b x).1
 slot:=fun i j e=>(I.slot i j e).mv (fun o q=>k _ _ (fun z=>ha.2 ⟨j,mem_of_getElem? e,z⟩) q) (fun c hc b o x e=>k b o (fun z=>(I.apart i c b hc x).1 (z▸ha.1)) e) ⟨fun b o e nn=>k b o (fun q=>nn (.inl (q▸ha.1))) e,fun b _ nn q=>nn (DD I ha b q).1⟩
 apart:=fun i c b e o=>have n:=I.apart i c b e o;⟨fun q=>n.1 q.1,n.2⟩
structure CG (ae:Addr→Prop) (hs:List aI) (ps:Nat→Addr×Addr) (st:St) (I D C:Addr) (fp:List Addr):Prop where
 gI:ae I∧¬HO hs I
 gD:ae D∧¬HO hs D
 gC:ae C
 ne:D≠C
 fD:D∉fp
 fC:C∉fp
 fO:∀b∈fp,¬Own ps st b
def CW(ps:Nat→Addr×Addr)(st:St)(I D C b:Addr):Prop:=Own ps st b∨b=I∨b=D∨b=C
structure CS (w:World) (aa:Heap) (ae:Addr→Prop) (hs:List aI) (ps:Nat→Addr×Addr) (st:St) (s:Shared) (I D C:Addr) (X:Heap→Prop) (af:St) (vs:List Value) (ac:List AV) (s':Shared):Prop where
 J:Inv w aa ae hs ps af s'
 L:cZ ps af st
 p:cy (CW ps st I D C) s s'
 h:X s'.heap
 d:LstAt s'.heap D vs
 r:au w s'.heap (OO ae hs ps af) vs ac
section
variable {aj bU:St}
theorem CS.go(z:CS w aa ae hs ps st s I D C X aj vs ac s1)(J:Inv w aa ae hs ps bU s2)(l:cZ ps bU aj)(p:cy V s1 s2)(v:∀b,V b→CW ps st I D C b∧b≠D∧OO ae hs ps aj b)(h:X' s2.heap):CS w aa ae hs ps st s I D C X' bU vs ac s2:=
 ⟨J,l.trans z.L,z.p.trans p fun b o=>.inl (v b o).1,h,z.d.move fun o e=>p.keep _ _ e fun q=>(v D q).2.1 rfl,bW.mv ⟨fun b o e nn=>p.keep b o e fun q=>nn (v b q).2.2,fun b _ nn q=>nn (l.OO q)⟩ z.r⟩
end
theorem CG.nW(G:CG ae hs ps st I D C fp)(q:CW ps st I D C b):OO ae hs ps st b:=q.elim (fun o=>.inr (.inr o)) fun q=>.inl (q.elim (fun o=>o▸G.gI.1) fun q=>q.elim (fun o=>o▸G.gD.1) fun o=>o▸G.gC)
theorem CG.nD{aj}(G:CG ae hs ps st I D C fp)(J:Inv w aa ae hs ps aj s):¬Own ps aj D:=fun q=>q.elim fun i q=>q.elim fun c q=>(J.apart i c D q.1 q.2).1 G.gD.1
theorem LD{tk:Nat}(p:qa h' I)(kp:∀b o,b∉[I]→s.heap.get? b=some o→h'.get? b=some o):cy (fun b=>b=I) s {s with heap:=h',toks:=tk}:=
 ⟨h',tk,rfl,fun b o e q=>kp b o (fun z=>q (mem_singleton.mp z)) e,fun b e=>none_of fun o z=>ez (kp b o (fun q=>p.elim fun o q'=>q'.elim fun T q'=>ez q'.1 (mem_singleton.mp q▸e)) z) e⟩
structure CT (w:World) (aa:Heap) (ae:Addr→Prop) (hs:List aI) (ps:Nat→Addr×Addr) (st:St) (s:Shared) (I D C:Addr) (Sx:Nat→Heap→Prop) (f:AV→List AV→St→Option (List AV×St)) (l acc:List AV) (cF:St) (i:Nat) (af:St) (vs:List Value) (ac:List AV) (m:Nat) (s':Shared):Prop where
 m:m=l.length-i+1
 le:i≤l.length
 z:CS w aa ae hs ps st s I D C (Sx i) af vs ac s'
 e:dS f (l.drop i) ac af=some (acc,cF)
structure CF (w:World) (aa:Heap) (ae:Addr→Prop) (hs:List aI) (ps:Nat→Addr×Addr) (st cF:St) (s:Shared) (I D C:Addr) (acc:List AV) (s':Shared):Prop where
 inv:Inv w aa (fun b=>ae b∧b≠I) hs ps cF s'
 bc:cZ ps cF st
 aF:Fy (fun b=>b=I) (CW ps st I D C) s s'
 vs:∃vs,LstAt s'.heap D vs∧au w s'.heap (OO (fun b=>ae b∧b≠I) hs ps cF) vs acc
theorem Fc(h:i<l):l-(i+1)+1<l-i+1:=Nat.succ_lt_succ (Nat.sub_succ_lt_self l i h)
theorem IG{α:Type}{l:List α}{i:Nat}{d:α}(dB:i<l.length)(e:l[i]? =some d):l.drop i=d::l.drop (i+1):=by
 rw[List.drop_eq_getElem_cons dB]
 rw[getElem?_eq_getElem dB]at e
 rw[Option.some.inj e]
theorem CS.fin{tk:Nat}(G:CG ae hs ps st I D C fp)(xM:D≠I)(z:CS w aa ae hs ps st s I D C X cF vs acc s1)(kp:∀b o,b≠I→s1.heap.get? b=some o→h'.get? b=some o):CF w aa ae hs ps st cF s I D C acc {s1 with heap:=h',toks:=tk} where
 inv:=z.J.yG G.gI kp
 bc:=z.L
 aF:=z.p.elim fun hx p=>p.elim fun tx p=>by
  obtain⟨rfl,k1,g1⟩:=p
  exact⟨h',tk,rfl,fun b o e q=>kp b o (fun z=>q (.inr (.inl z))) (k1 b o e q),fun b q e=>g1 b (none_of fun o z=>ez (kp b o q z) e)⟩
 vs:=⟨vs,z.d.move fun o e=>kp _ _ xM e,bW.mv ⟨fun b o e nn=>kp b o (fun q=>nn (.inl (q▸G.gI.1))) e,fun b _ nn q=>nn (q.imp (fun q=>q.1) id)⟩ z.r⟩
theorem WU{R:Result→Shared→Prop}{elt:ME}{eelt target iter:Expr}{ifs:List Expr}{scope:Scope}{pos:Pos}{cond:MO}{env:Env}{cF:St}{fp:List Addr}{P:Nat→Value→Prop}{Sx:Nat→Heap→Prop}
  (X:IS w aa lv sc nm n A env ae hs ps st s) (he:SE w aa T S lv sc nm n elt eelt) (hc:mh w aa T S lv sc nm n cond ifs) (ht:l6 nm t target=true) (eU:∀b,HS hs (pV t) b→b=C)
  (Wk:Walks ey w A I fp [I] l.length P Sx) (mF:∀i h,Sx i h→qa h I) (h0:Sx 0 s.heap) (G:CG ae hs ps st I D C fp) (hD:LstAt s.heap D [])
  (hP:∀i x,i<l.length→P i x→∃d,l[i]? =some d∧RV w s.heap (OO ae hs ps st) x d)
  (hl:dS (gL t (fL T S cond) (ev T S elt)) l [] st=some (acc,cF)) (fin:∀s',CF w aa ae hs ps st cF s I D C acc s'→R (.ok .next) s'):
  codeAny (ah w) A (.compLoop (.ListComp eelt [⟨target,iter,ifs,0⟩] scope pos) 0 (.ref I) (.ref D) env) R s:=by
 refine WS (fun m s'=>∃i af vs ac,CT w aa ae hs ps st s I D C Sx (gL t (fL T S cond) (ev T S elt)) l acc cF i af vs ac m s') ?_ (l.length+1) ⟨0,st,[],[],rfl,zero_le _,⟨X.I,.refl,.refl,h0,hD,rfl⟩,hl⟩
 intro m s1 h
 refine h.elim fun i h=>h.elim fun aj h=>h.elim fun vs h=>h.elim fun ac z=> ?_
 have xM:D≠I:=fun q=>G.fD (q▸Wk.sub I (mem_singleton.mpr rfl))
 by_cases dB:i<l.length
 ·refine Wk.item i _ _ _ dB z.z.h fun v h' tk pv h2 kp=>Mp (mF _ _ h2) ((hP i v dB pv).elim fun d hd=> ?_)
  have uJ:=LD (s:=s1) (tk:=tk) (mF _ _ h2) kp
  have z1:=z.z.go (X':=Sx (i+1)) (z.z.J.chg uJ fun b q=>q▸G.gI) .refl uJ (fun b q=>⟨.inr (.inl q),fun e=>xM (e.symm.trans q),.inl (q▸G.gI.1)⟩) h2
  have e:=z.e
  rw[IG dB hd.1]at e
  refine aN e fun ac2 bU b1 e=>aK b1 fun pQ t1 b1=>aN b1 fun ok st4 c1 b1=> ?_
  refine wm (Bj X.K X.R.hd ht z1.J (bk.mv ⟨fun b o e nn=>z1.p.keep b o e fun q=>nn (G.nW q),fun b _ nn q=>nn (z1.L.OO q)⟩ hd.2) t1) fun _ s2 zb=> ?_
  have z2:=z1.go (X':=Sx (i+1)) zb.inv zb.bc zb.aF (fun b q=>have q:=eU b q;⟨.inr (.inr (.inr q)),fun e=>G.ne (e.symm.trans q),.inl (q▸G.gC)⟩) (Wk.frame _ _ _ z1.h fun b hb o e=>zb.aF.keep b o e fun q=>G.fC (eU b q▸hb))
  refine wm (hc ⟨X.R,X.K,z2.J,z2.L.len.trans X.L⟩ c1) fun k s3 zc=> ?_
  have z3:=z2.go (X':=Sx (i+1)) zc.z.inv zc.z.bc zc.z.aF (fun b q=>⟨.inl (z2.L.mem q),fun e=>G.nD z2.J (e▸q),.inr (.inr q)⟩) (Wk.frame _ _ _ z2.h fun b hb o e=>zc.z.aF.keep b o e fun q=>G.fO b hb (z2.L.mem q))
  rw[zc.e]
  cases ok with
  |false=>
   cases b1
   rw[if_neg (by decide)]
   exact⟨_,z.m▸Fc dB,i+1,_,vs,ac,rfl,dB,z3,e⟩
  |true=>
   rw[if_pos rfl]
   refine aN b1 fun d' st5 c5 b1=>aX b1 fun CL b1=> ?_
   cases b1
   refine wm (he.f ⟨X.R,X.K,z3.J,z3.L.len.trans X.L⟩ c5) fun u s4 zf=> ?_
   have z4:=z3.go (X':=Sx (i+1)) zf.e.inv zf.e.bc zf.e.aF (fun b q=>⟨.inl (z3.L.mem q),fun e=>G.nD z3.J (e▸q),.inr (.inr q)⟩) (Wk.frame _ _ _ z3.h fun b hb o e=>zf.e.aF.keep b o e fun q=>G.fO b hb (z3.L.mem q))
   refine wpAny_list_append_plain (items:=vs.toArray) ⟨z4.d.2.choose,z4.d.2.choose_spec⟩ (fun h5 xZ qY=> ?_) (by rw[sizeLine_eq];simpa using z4.d.1)
   have p5:cy (fun b=>b=D) s4 {s4 with heap:=h5}:=⟨h5,s4.toks,rfl,fun b o e q=>(qY.2 b q).trans e,fun b e=>if q:b=D then(xZ.elim fun n d=>ez d (q▸e)).elim else(qY.2 b q).symm.trans e⟩
   have d5:LstAt h5 D (vs++[u]):=⟨by rw[length_append,z4.r.length];exact of_decide_eq_true CL,xZ.elim fun n' e'=>⟨n',by rw[e'];simp⟩⟩
   exact⟨_,z.m▸Fc dB,i+1,_,vs++[u],ac++[d'],rfl,dB,⟨zf.e.inv.chg p5 fun b q=>q▸G.gD,z4.L,z4.p.trans p5 fun b q=>.inl (.inr (.inr (.inl q))),Wk.frame _ _ _ z4.h fun b hb o e=>(qY.2 b fun q=>G.fD (q▸hb)).trans e,d5,
    bW.mv ⟨fun b o e nn=>p5.keep b o e fun q=>nn (.inl (q▸G.gD.1)),fun _ _ nn=>nn⟩ (z4.r.app (bW.cons zf.r rfl))⟩,e⟩
 ·obtain rfl:i=l.length:=le_antisymm z.le (le_of_not_lt dB)
  have e:=z.e
  rw[drop_length]at e
  cases e
  exact Wk.done _ _ _ z.z.h fun h' tk kp=>fin _ (z.z.fin G xM fun b o q e=>kp b o (fun z=>q (mem_singleton.mp z)) e)
noncomputable def oa(e:Expr):Bool:= !beq e.ctorIdx 7
theorem OX{env:Env}(h:oa e=true)(x):foldedSetIterable e env x=pure x:=by
 cases e<;>first|rfl|cases h
structure CD (w:World) (aa:Heap) (ae:Addr→Prop) (hs:List aI) (ps:Nat→Addr×Addr) (st af:St) (s:Shared) (acc:List AV) (C D:Addr) (s':Shared):Prop where
 inv:Inv w aa (fun b=>ae b∨b=C∨b=D) hs ps af s'
 aF:cy (Own ps st) s s'
 bc:cZ ps af st
 nD:s.heap.get? D=none
 nC:s.heap.get? C=none
 ne:D≠C
 nH:¬HO hs C
 ns:∃m,s'.heap.Ns C m
 vs:∃vs,LstAt s'.heap D vs∧au w s'.heap (OO (fun b=>ae b∨b=C∨b=D) hs ps af) vs acc
structure CN (h h':Heap) (I D C:Addr) (m:Str→Option Value):Prop where
 keep:∀b o,h.get? b=some o→h'.get? b=some o
 nI:h.get? I=none
 nD:h.get? D=none
 nC:h.get? C=none
 eI:(h'.get? I).isSome=true
 eD:LstAt h' D []
 eC:h'.Ns C m
 IC:I≠C
 ID:I≠D
 ne:D≠C
theorem WA{h0 h h4:Heap}{I:Addr}(k:∀b o,h0.get? b=some o→h.get? b=some o)(n:h0.get? I=none)(e:(h.get? I).isSome=true)(kR:h4.Ns (h.push {cls:=.type "list",dict:=none,data:=.seq ([]:List Value).toArray}).objs.size m)
  (C6:Heap.SameBut (h.push {cls:=.type "list",dict:=none,data:=.seq ([]:List Value).toArray}).objs.size ((h.push {cls:=.type "list",dict:=none,data:=.seq ([]:List Value).toArray}).push o) h4):
  CN h0 h4 I h.objs.size (h.push {cls:=.type "list",dict:=none,data:=.seq ([]:List Value).toArray}).objs.size m∧∀b o,h.get? b=some o→h4.get? b=some o∧b≠h.objs.size∧b≠(h.push {cls:=.type "list",dict:=none,data:=.seq ([]:List Value).toArray}).objs.size:=by
 revert kR C6
 generalize hH:h.push {cls:=.type "list",dict:=none,data:=.seq ([]:List Value).toArray}=H3
 intro kR C6
 have e3:∀b o,h.get? b=some o→H3.get? b=some o:=fun b o e=>hH▸Heap.get?_push_of_some _ e
 have e4:∀b o,H3.get? b=some o→h4.get? b=some o:=fun b o e=>C6.extBut b o (ne_of_lt (Heap.lt_size e)) (Heap.get?_push_of_some _ e)
 have nC:h.get? H3.objs.size=none:=none_of fun o q=>lt_irrefl _ (Heap.lt_size (e3 _ o q))
 have nD:h.get? h.objs.size=none:=dU
 have eD:H3.get? h.objs.size=some {cls:=.type "list",dict:=none,data:=.seq ([]:List Value).toArray}:=hH▸Heap.get?_push_size _ rfl
 exact⟨⟨fun b o e=>e4 b o (e3 b o (k b o e)),n,n4 k _ nD,n4 k _ nC,(isSome_iff_exists.mp e).elim fun o e=>isSome_of_eq_some (e4 _ _ (e3 _ _ e)),⟨zero_le _,0,e4 _ _ eD⟩,kR,fun q=>isSome_none e (q▸nC),fun q=>isSome_none e (q▸nD),
  fun q=>ne_of_lt (Heap.lt_size eD) q⟩,fun b o e=>⟨e4 b o (e3 b o e),fun q=>ez e (q▸nD),fun q=>ez e (q▸nC)⟩⟩
section
variable {I D C:Addr} {m:Str→Option Value} {h':Heap} {tk:Nat} {xs:List Str}
def O1(ae:Addr→Prop)(I D C b:Addr):Prop:=ae b∨(b=I∨b=C∨b=D)
theorem CN.inv(N:CN s.heap h' I D C m)(J:Inv w aa ae hs ps st s)(hx:xs.Nodup):Inv w aa (O1 ae I D C) (hs++xs.map (aI.loc C)) ps (st++replicate xs.length .no) {s with heap:=h',toks:=tk}:=
 (J.pw (F:=fun b=>b=I∨b=C∨b=D) (s':={s with heap:=h',toks:=tk}) ⟨h',tk,rfl,N.keep⟩ fun b q=>q.elim (fun q=>q▸⟨N.nI,N.eI⟩) fun q=>q.elim (fun q=>q▸⟨N.nC,by obtain⟨o,_,_,e,_⟩:=N.eC;exact isSome_of_eq_some e⟩) fun q=>q▸⟨N.nD,N.eD.ok⟩).ext N.eC (.inr (.inr (.inl rfl))) (fun q=>isSome_none (J.bB C (.inr (.inl q))) N.nC) hx
theorem CN.nH(N:CN s.heap h' I D C m)(J:Inv w aa ae hs ps st s)(e:s.heap.get? b=none)(n:b≠C):¬HO (hs++xs.map (aI.loc C)) b:=fun q=>q.app.elim (fun q=>isSome_none (J.bB b (.inr (.inl q))) e) fun q=>n q.loc
theorem CN.g(N:CN s.heap h' I D C m)(J:Inv w aa ae hs ps st s)(f:∀b∈fp,b≠D∧b≠C∧¬Own ps st b):CG (O1 ae I D C) (hs++xs.map (aI.loc C)) ps (st++replicate xs.length .no) I D C fp:=
 ⟨⟨.inr (.inl rfl),N.nH J N.nI N.IC⟩,⟨.inr (.inr (.inr rfl)),N.nH J N.nD N.ne⟩,.inr (.inr (.inl rfl)),N.ne,fun q=>(f _ q).1 rfl,fun q=>(f _ q).2.1 rfl,fun b hb q=>(f b hb).2.2 q.app⟩
theorem CN.mv(N:CN s.heap h' I D C m)(k:∀b o,h1.get? b=some o→h'.get? b=some o∧b≠D∧b≠C)(n:∀b,OO ae hs ps st b∨b=I→O b):Mv h1 h' O (OO (O1 ae I D C) (hs++xs.map (aI.loc C)) ps (st++replicate xs.length .no)):=
 ⟨fun b o e _=>(k b o e).1,fun b e nn q=>(isSome_iff_exists.mp e).elim fun o e=>have k:=k b o e
  q.elim (fun q=>q.elim (fun q=>nn (n b (.inl (.inl q)))) fun q=>q.elim (fun q=>nn (n b (.inr q))) fun q=>q.elim k.2.2 k.2.1) fun q=>q.elim (fun q=>q.app.elim (fun q=>nn (n b (.inl (.inr (.inl q))))) fun q=>k.2.2 q.loc) fun q=>nn (n b (.inl (.inr (.inr q.app))))⟩
theorem CN.fin{pP cF:St}(N:CN s.heap h' I D C m)(z:EP w aa ae hs ps pP st s0 s)(ln:hs.length=n)(iI:xs.isEmpty=false)(F:CF w aa (O1 ae I D C) (hs++xs.map (aI.loc C)) ps (st++replicate xs.length .no) cF {s with heap:=h',toks:=tk} I D C acc s'):
  CD w aa ae hs ps pP (cF.take n) s0 acc C D s':=by
 subst ln
 have lo:∀b,ae b∨b=C∨b=D→O1 ae I D C b∧b≠I:=fun b q=>q.elim (fun q=>⟨.inl q,fun e=>isSome_none (z.inv.bB b (.inl q)) (e▸N.nI)⟩) fun q=>⟨.inr (.inr q),fun e=>q.elim (fun q=>N.IC (e.symm.trans q)) fun q=>N.ID (e.symm.trans q)⟩
 have L:cZ ps (cF.take hs.length) st:=⟨by rw[length_take,F.bc.len,length_append,z.inv.len];exact min_eq_left (le_add_right ..),fun i c' e=>(F.bc.own i c' (AK e)).imp fun c e=>⟨sX.symm.trans e.1,e.2⟩⟩
 have p:cy (Own ps st) s s':=F.aF.elim fun hE p=>p.elim fun tE p=>⟨hE,tE,p.1,fun b o e q=>p.2.1 b o (N.keep b o e) fun z=>z.elim (fun z=>q z.app) fun z=>z.elim (fun z=>ez e (z▸N.nI)) fun z=>z.elim (fun z=>ez e (z▸N.nD)) fun z=>ez e (z▸N.nC),
  fun b e=>if q:b=I then q▸N.nI else n4 N.keep b (p.2.2 b q e)⟩
 exact⟨(F.inv.al6 rfl).less lo,z.aF.trans p fun b q=>.inl (z.bc.mem q),L.trans z.bc,z.aF.gone _ N.nD,z.aF.gone _ N.nC,N.ne,fun q=>isSome_none (z.inv.bB C (.inr (.inl q))) N.nC,by
  cases xs with
  |nil=>cases iI
  |cons x0 xr=>
   exact(F.inv.nM (i:=hs.length) (k:=.loc C x0) (by rw[getElem?_append_right (le_refl _),sub_self];rfl)).elim fun u h=>h.imp fun m h=>h.1,
  F.vs.imp fun vs d=>⟨d.1,bW.mv (Mv.less fun b q=>q.imp (lo b) fun q=>q.imp (fun q=>q.imp fun k q=>⟨mem_append_left _ q.1,q.2⟩) Own.tk) d.2⟩⟩
end
theorem Ir{use:Option (Value→Sem Unit)}{Q:Value→Shared→Prop}{iter elt:ME}{eelt target iE:Expr}{ifs:List Expr}{scope:Scope}{pos ahO:Pos}{cond:MO}{env:Env}{xs:List Str}{du:List (Str×Nat)}{d:AV}{l acc:List AV}{aj cF:St}
  (X:IS w aa lv sc nm n A env ae hs ps st s) (ok:qy sc nm n scope xs du=true) (hi:SE w aa T S lv sc nm n iter iE) (kR:oa iE=true)
  (he:SE w aa T S lv (kx scope sc) du (n+xs.length) elt eelt) (hc:mh w aa T S lv (kx scope sc) du (n+xs.length) cond ifs) (ht:l6 du t target=true) (eU:(pV t).all (fun i=>decide (n≤i))=true)
  (h1:iH (ev T S iter st)=some (d,aj)) (h2:gJ d=some l) (h3:dS (gL t (fL T S cond) (ev T S elt)) l [] (aj++replicate xs.length .no)=some (acc,cF))
  (fin:∀C D s',CD w aa ae hs ps st (cF.take n) s acc C D s'→compPost (ah w) A aG use Q (.ref D) C (.ok .next) s'):
  wpAny (ah w) A (comprehension (.ListComp eelt [⟨target,iE,ifs,0⟩] scope pos) scope env ahO (newList []) false (eval iE env) use) Q aG s:=by
 have o:=WL ok
 have hlen:hs.length=n:=X.I.len▸X.L
 refine(Wg fun x hx=>(isSome_iff_exists.mp (o.xC x hx).2).elim fun i hi=>(X.K.ph x i hi).elim (fun q=>nomatch (o.xC x hx).1.symm.trans q.1) fun q=>q.2.elim fun c q=>isSome_of_eq_some q.1).elim fun cl nN=> ?_
 refine wpAny_comprehension_free rfl (OX kR) nN.1 o.k (fun x hx hl=>o.loc x.1 (by rw[←hl];exact hx)) (wm (hi.f X h1) fun v s1 z1=>wm (LH h2 z1.r z1.e.inv.bB) fun it s2 z2=>z2.elim fun I z2=> ?_)
 rw[z2.1]
 refine(z2.2 A X.R.hd).elim fun fp y=>y.elim fun P y=>y.elim fun Sx y=> ?_
 obtain⟨Wk,x8,⟨uu,tk2,rfl,kk⟩,eI,jB,hP,mF⟩:=y
 refine wpAny_newObj_type (wpAny_newFunctionEnv (fun x hx q=>o.cell x.1 (by rw[←q];exact hx)) (fun y hy=>nomatch hy) (fun h4 abK abR=> ?_) o.k)
 have N:=WA kk eI.1 eI.2 abK abR
 have Kw:∀b∈fp,∀o,uu.get? b=some o→h4.get? b=some o:=fun b _ o e=>(N.2 b o e).1
 have loop:codeAny (ah w) A (.compLoop (.ListComp eelt [⟨target,iE,ifs,0⟩] scope pos) 0 (.ref I) (.ref uu.objs.size) (compEnvC scope cl (uu.push {cls:=.type "list",dict:=none,data:=.seq ([]:List Value).toArray}).objs.size env)) (compPost (ah w) A aG use Q (.ref uu.objs.size) (uu.push {cls:=.type "list",dict:=none,data:=.seq ([]:List Value).toArray}).objs.size) {s1 with heap:=h4,toks:=tk2+([]:List (Str×Value)).length}:=
  WU ⟨X.R,WM o X.K hlen nN.2,N.1.inv z1.e.inv o.nodup,by rw[length_append,z1.e.bc.len,X.L,length_replicate]⟩ he hc ht
   (fun b q=>q.elim fun i q=>q.2.elim fun k q'=>by
    have hn:=of_decide_eq_true (all_eq_true.mp eU i q.1)
    have e:=q'.1
    rw[getElem?_append_right (hlen▸hn)]at e
    exact HO.loc ⟨k,mem_of_getElem? e,q'.2⟩)
   Wk mF (Wk.frame _ _ _ x8 Kw) (N.1.g z1.e.inv fun b hb=>(isSome_iff_exists.mp (jB b hb).1).elim fun o e=>⟨(N.2 b o e).2.1,(N.2 b o e).2.2,fun q=>(jB b hb).2 (show OO ae hs ps aj b from .inr (.inr q))⟩) N.1.eD
   (fun i x hi hx=>(hP i x hi hx).imp fun d r=>⟨r.1,r.2.mv (N.1.mv N.2 fun b q=>q)⟩) h3 fun s' F=>fin _ _ s' (N.1.fin z1.e hlen o.ne F)
 exact codeAny_compStart_list loop (Wk.self 0 _ _ _ (Wk.frame _ _ _ x8 Kw) loop)
end
end
section
section
variable {ae:Addr→Prop} {hs:List aI} {ps:Nat→Addr×Addr} {st:St} {s:Shared} {A:Around}
theorem WN(I:Inv w aa ae hs ps st s)(d:CD w aa ae hs ps st af s acc C D s')(di:Heap.SameBut C s'.heap h'):QE w aa ae hs ps st af s (.fresh (.lst acc)) (.ref D) {s' with heap:=h'}:=by
 have o0:∀b,ae b→b≠C:=fun b q z=>isSome_none (I.bB b (.inl q)) (z▸d.nC)
 have J2:Inv w aa (fun b=>ae b∨b=D) hs ps af {s' with heap:=h'}:=(d.inv.yG (tk:=s'.toks) ⟨.inr (.inl rfl),d.nH⟩ fun b o q e=>(di.2 b q).trans e).less fun b q=>q.elim (fun q=>⟨.inl q,o0 b q⟩) fun q=>⟨.inr (.inr q),fun z=>d.ne (q.symm.trans z)⟩
 refine d.vs.elim fun vs v=>⟨⟨J2.less fun b q=>.inl q,d.aF.elim fun h1 p=>p.elim fun t1 p=> ?_,d.bc⟩,(D,0),rfl,fun b (q:b=D)=>q▸d.nD,⟨vs,v.1.move fun o e=>(di.2 D d.ne).trans e,bW.mv ⟨fun b o e q=>(di.2 b fun z=>q (.inl (.inr (.inl z)))).trans e,fun b _ nn q=>nn (q.elim (fun q=>q.imp .inl id) fun(q:b=D)=>.inl (.inr (.inr q)))⟩ v.2⟩,J2⟩
 obtain⟨rfl,k1,g1⟩:=p
 exact⟨h',t1,rfl,fun b o e q=>(di.2 b fun z=>ez e (z▸d.nC)).trans (k1 b o e q),fun b e=>if z:b=C then z▸d.nC else g1 b ((di.2 b z).symm.trans e)⟩
theorem Iq{k:Nat}{t:eO}{iter elt:ME}{cond:MO}{af}{G:Prop}(h:ev T S (.comp k t iter cond elt) st=some (r,af))
  (g:∀d aj l acc cF,iH (ev T S iter st)=some (d,aj)→gJ d=some l→dS (gL t (fL T S cond) (ev T S elt)) l [] (aj++replicate k .no)=some (acc,cF)→r=.fresh (.lst acc)→af=cF.take st.length→G):G:=
 aN h fun d aj h1 e=>aK e fun l h2 e=>aN e fun acc cF h3 e=>have q:=Option.some.inj e;g d aj l acc cF h1 h2 h3 (congrArg Prod.fst q).symm (congrArg Prod.snd q).symm
theorem akc{iter elt:ME}{eelt target iE:Expr}{ifs:List Expr}{scope:Scope}{pos:Pos}{cond:MO}{t:eO}{xs:List Str}{du:List (Str×Nat)}
  (ok:qy sc nm n scope xs du=true) (hi:SE w aa T S lv sc nm n iter iE) (kR:oa iE=true) (he:SE w aa T S lv (kx scope sc) du (n+xs.length) elt eelt) (hc:mh w aa T S lv (kx scope sc) du (n+xs.length) cond ifs)
  (ht:l6 du t target=true) (eU:(pV t).all (fun i=>decide (n≤i))=true):SE w aa T S lv sc nm n (.comp xs.length t iter cond elt) (.ListComp eelt [⟨target,iE,ifs,0⟩] scope pos):=by
 intro A env ae hs ps st s r af X ao
 refine Iq ao fun d aj l acc cF h1 h2 h3 e1 e2=> ?_
 rw[e1,e2,X.L,eval_ListComp]
 exact Ir X ok hi kR he hc ht eU h1 h2 h3 fun C D s' z=>z.ns.imp fun m hm=>⟨hm,fun h' di=>WN X.I z di⟩
end
end
section
section
variable {ae:Addr→Prop} {hs:List aI} {ps:Nat→Addr×Addr} {st:St} {s:Shared} {A:Around}
def FR(w:World)(aa:Heap)(ae:Addr→Prop)(hs:List aI)(ps:Nat→Addr×Addr)(st:St)(s s':Shared)(fl:Flow):br→Prop
 |.next=>fl=.next
 |.ret r=>∃v,fl=.ret v∧RR w aa ae hs ps st s s' v r
structure QX (w:World) (aa:Heap) (ae:Addr→Prop) (hs:List aI) (ps aE:Nat→Addr×Addr) (st af:St) (s:Shared) (f:br) (fl:Flow) (s':Shared):Prop where
 sp:SP w aa ae hs ps aE st af s s'
 r:FR w aa ae hs aE af s s' fl f
def SS(w:World)(aa:Heap)(T:Tab)(S:cf)(lv F:Nat)(sc:Scope)(nm:List (Str×Nat))(n:Nat)(ms:MS)(x:Stmt):Prop:=
 ∀{A} {env} {ae} {hs} {ps} {st} {s} {f} {af},IS w aa lv sc nm n A env ae hs ps st s→
  ex T S F ms st=some (f,af)→wpAny (ah w) A (exec x env) (fun fl s'=>∃aE,QX w aa ae hs ps aE st af s f fl s') aG s
def iz(w:World)(aa:Heap)(T:Tab)(S:cf)(lv F:Nat)(sc:Scope)(nm:List (Str×Nat))(n:Nat)(ms:ai)(x:List Stmt):Prop:=
 ∀{A} {env} {ae} {hs} {ps} {st} {s} {f} {af},IS w aa lv sc nm n A env ae hs ps st s→
  bj T S F ms st=some (f,af)→wpAny (ah w) A (execs x env) (fun fl s'=>∃aE,QX w aa ae hs ps aE st af s f fl s') aG s
theorem FR.back(k:∀b,s.heap.get? b=none→s0.heap.get? b=none)(x:FR w aa ae hs ps st s s' fl f):FR w aa ae hs ps st s0 s' fl f:=by
 cases f with
 |next=>exact x
 |ret r=>
  refine x.imp fun v e=>⟨e.1,?_⟩
  cases r with
  |val d=>exact e.2
  |loc i=>exact e.2
  |fresh c=>exact e.2.imp fun p a=>⟨a.1,fun y o=>k y (a.2.1 y o),a.2.2⟩
theorem SP.refl(I:Inv w aa ae hs ps st s):SP w aa ae hs ps ps st st s s:=(EP.refl I).sp
theorem alA:iz w aa T S lv F sc nm n .nil []:=by
 intro A env ae hs ps st s f af X h
 refine bY h ?_
 exact wpAny_execs_nil ⟨ps,.refl X.I,rfl⟩
theorem SP.ln(x:SP w aa ae hs ps aE st af s s')(L:st.length=n):af.length=n:=x.len.trans L
theorem IS.DR{env}(X:IS w aa lv sc nm n A env ae hs ps st s)(x:SP w aa ae hs ps aE st af s s'):IS w aa lv sc nm n A env ae hs aE af s':=⟨X.R,X.K,x.inv,x.len.trans X.L⟩
theorem QX.back{aj bU:St}(p:SP w aa ae hs ps gn st aj s s1)(z:QX w aa ae hs gn yW aj bU s1 f fl s2):QX w aa ae hs ps yW st bU s f fl s2:=⟨p.trans z.sp,z.r.back p.aF.gone⟩
theorem alz(h1:SS w aa T S lv F sc nm n m x)(h2:iz w aa T S lv F sc nm n r xs):iz w aa T S lv F sc nm n (.cons m r) (x::xs):=by
 intro A env ae hs ps st s f af X h
 refine aN h fun f1 aj e1 h=> ?_
 refine wpAny_execs_cons (wm (h1 X e1) fun fl s1 z1=>z1.elim fun gn z1=> ?_)
 have r1:=z1.r
 cases f1 with
 |next=>
  obtain rfl:fl=.next:=r1
  exact wm (h2 (X.DR z1.sp) h) fun fl s2 z2=>z2.imp fun yW z2=>z2.back z1.sp
 |ret r=>
  cases h
  exact r1.elim fun v r=>r.1▸⟨gn,z1.sp,v,rfl,r.2⟩
theorem alu(h:SE w aa T S lv sc nm n e x):SS w aa T S lv F sc nm n (.ret e) (.Return (some x) pos):=by
 intro A env ae hs ps st s f af X hx
 refine aN hx fun r aj e1 e=> ?_
 refine bY e ?_
 exact wpAny_Return_some (wm (h X e1) fun v s1 z1=>⟨ps,z1.e.sp,v,rfl,z1.r⟩)
theorem alv:SS w aa T S lv F sc nm n (.ret (.con .none)) (.Return none pos):=by
 intro A env ae hs ps st s f af X hx
 refine bY hx ?_
 exact wpAny_Return_none ⟨ps,.refl X.I,.none,rfl,rfl⟩
theorem als(hc:ST w aa T S lv sc nm n c x)(ha:iz w aa T S lv F sc nm n a xa)(hb:iz w aa T S lv F sc nm n b xb):SS w aa T S lv F sc nm n (.iff c a b) (.If x xa xb pos):=by
 intro A env ae hs ps st s f af X hx
 refine aN hx fun d aj e1 hx=> ?_
 refine wpAny_If (wm (hc X e1) fun t s1 z1=> ?_)
 rw[z1.e]
 cases d with
 |true=>exact wm (ha (X.next z1.z) hx) fun fl s2 z2=>z2.imp fun _ z2=>z2.back z1.z.sp
 |false=>exact wm (hb (X.next z1.z) hx) fun fl s2 z2=>z2.imp fun _ z2=>z2.back z1.z.sp
noncomputable def lK(e:Expr):Bool:= !beq e.ctorIdx 8&& !beq e.ctorIdx 9&& !beq e.ctorIdx 10
theorem vQ{env:Env}(h:lK e=true):swapsWith e t l env=pure false:=by
 cases e<;>first|rfl|cases h
noncomputable def vP(sc:Scope)(t:Str)(tl vl:Nat)(scope:Scope):Bool:=sc.names.lookup t==some .local&&tl==vl&& !(scope.names.any fun(n,k)=>n==t&&(k==.local||k==.cell))
theorem Po{env:Env}(KK:ef env sc nm hs):swapsWith (.ListComp elt gens scope vp) (some (.Name t tp)) l env=pure (vP sc t tp.line vp.line scope):=by
 have hb:env.blockKind=.function:=by unfold Env.blockKind;rw[KK.scope,KK.kind];rfl
 show(pure (env.blockKind==.function&&env.kindOf t==some .local&&tp.line==vp.line&& !(scope.names.any fun(n,k)=>n==t&&(k==.local||k==.cell))):Sem Bool)=_
 rw[hb]
 unfold Env.kindOf vP
 rw[KK.scope]
 rfl
theorem Pj(h:SE w aa T S lv sc nm n e x)(hy:nm.lookup y=some i)(hs:∀{env hs},ef env sc nm hs→swapsWith x (some (.Name y yp)) pos.line env=pure false):SS w aa T S lv F sc nm n (.asg i own e) (.Assign [.Name y yp] x pos):=by
 intro A env ae di ps st s f af X hx
 refine aN hx fun r aj e1 e=>aK e fun bU e2 e=> ?_
 cases e
 exact wpAny_Assign_Name (wm (h X e1) fun v s1 z1=>alN X.K hy X.I z1.e z1.r e2 fun aE s' p=>⟨aE,p,rfl⟩) (hs X.K)
theorem alM{env:Env}(KK:ef env sc nm hs)(hx:nm.lookup x=some i)(J:Inv w aa (fun b=>ae b∨c.aU p b) hs ps st s)
  (cl:cW w s.heap (fun b=>OO ae hs ps st b∨c.aU p b) p c) (nO:∀b,c.aU p b→¬OO ae hs ps st b) (e:put st i own (.fresh c)=some af) (h:∀aE s',PA w aa ae hs ps aE (c.aU p) st af s s'→Q () s'):wpAny (ah w) A (storeName env x (.ref p.1)) Q E s:=by
 refine(KK.at hx).elim fun k hk=>(J.nM hk).elim fun u hu=>vN KK hx hk hu fun h' tk q=> ?_
 cases own with
 |false=>
  refine aX e fun _ e=> ?_
  cases e
  have z:=(J.less fun b q=>.inl q).rM (tk:=tk) hk (d:=c.av) (cl.rv nO (Mv.less fun b q=>.inl q)) q
  exact h _ _ ⟨z.inv,z.aF,fun b o=>.inl (n6.mem o),z.len,z.fst⟩
 |true=>
  refine aX e fun hc e=>aS hc fun _ hc=> ?_
  cases e
  have hi:i≠0:=fun q=>by rw[q]at hc;cases hc
  have hl:=J.uo hk
  exact h _ _ ⟨J.Eb hk cl nO q,Ec hk q,fun b o=>D4 hl o,length_set,fun c' e=>mP (ps:=ps) (p:=p) hl e (fun q=>absurd q.symm hi) fun _ e2 e3=>⟨c',e2,e3,fun b o=>e3▸o⟩⟩
theorem Sz{aj af}(I:Inv w aa ae hs ps st s)(z:CD w aa ae hs ps st aj s acc C D s1)(y:PA w aa (fun b=>ae b∨b=C) hs ps aE (fun b=>b=D) aj af s1 s2)(k:Heap.SameBut C s2.heap h'):SP w aa ae hs ps aE st af s {s2 with heap:=h'} where
 inv:=(y.inv.yG (tk:=s2.toks) ⟨.inr rfl,z.nH⟩ fun b o q e=>(k.2 b q).trans e).less fun b q=>⟨.inl q,fun e=>isSome_none (I.bB b (.inl q)) (e▸z.nC)⟩
 aF:=((z.aF.mono (W':=fun b=>HO hs b∨Own ps st b) fun b o=>.inl (.inr o)).trans y.aF fun b o=>.inl (o.imp id z.bc.mem)).elim fun h2 q=>q.elim fun t2 q=>by
  obtain⟨rfl,k2,g2⟩:=q
  exact⟨h',t2,rfl,fun b o e q=>(k.2 b fun z'=>ez e (z'▸z.nC)).trans (k2 b o e q),fun b e=>if q:b=C then q▸z.nC else g2 b ((k.2 b q).symm.trans e)⟩
 own:=fun b o=>(y.own b o).elim (fun o=>.inl (z.bc.mem o)) fun o=>.inr (o▸z.nD)
 len:=y.len.trans z.bc.len
 fst:=fun c' e=>(y.fst c' e).elim fun c1 a=>(z.bc.own 0 c1 a.1).elim fun c2 b=>⟨c2,b.1,a.2.1,fun x o=>b.2 x (a.2.2 x o)⟩
theorem aln{iter elt:ME}{eelt target iE:Expr}{ifs:List Expr}{scope:Scope}{cp yp pos:Pos}{cond:MO}
  (ok:qy sc nm n scope xs du=true) (hi:SE w aa T S lv sc nm n iter iE) (kR:oa iE=true) (he:SE w aa T S lv (kx scope sc) du (n+xs.length) elt eelt) (hc:mh w aa T S lv (kx scope sc) du (n+xs.length) cond ifs)
  (ht:l6 du t target=true) (eU:(pV t).all (fun i=>decide (n≤i))=true) (hy:nm.lookup y=some i) (hsw:vP sc y yp.line cp.line scope=true):
  SS w aa T S lv F sc nm n (.asg i own (.comp xs.length t iter cond elt)) (.Assign [.Name y yp] (.ListComp eelt [⟨target,iE,ifs,0⟩] scope cp) pos):=by
 intro A env ae hs ps st s f af X hx
 refine aN hx fun r bU e1 e=>aK e fun pQ e2 e=>Iq e1 fun d aj l acc cF h1 h2 h3 q1 q2=> ?_
 cases e
 rw[q1,q2,X.L]at e2
 rw[exec_Assign_Name_used _ _ _ _ (by rw[Po X.K,hsw])]
 refine wpAny_bind (wpAny_standAt (wpAny_bind ?_))
 show wpAny _ A (do let _ ←comprehension (.ListComp eelt [⟨target,iE,ifs,0⟩] scope cp) scope env _ (newList []) false (eval iE env) (some (assign (.Name y yp) env))) _ _ s
 refine wpAny_bind (wm (Ir (Q:=fun _ s'=>∃aE,SP w aa ae hs ps aE st af s s') X ok hi kR he hc ht eU h1 h2 h3 fun C D s' z=> ?_) fun _ s' z=>wpAny_pure (wpAny_pure (z.imp fun aE z=>⟨z,rfl⟩)))
 have DM:=fun {b} (q:OO ae hs ps (cF.take n) b)=>X.I.bB b (z.bc.OO q)
 have nD:¬OO (fun b=>ae b∨b=C) hs ps (cF.take n) D:=fun q=>q.elim (fun q=>q.elim (fun q=>isSome_none (DM (.inl q)) z.nD) z.ne) fun q=>isSome_none (DM (.inr q)) z.nD
 exact z.vs.elim fun vs v=>z.ns.elim fun m hm=>assign_Name (alM (p:=(D,0)) (c:=.lst acc) (ae:=fun b=>ae b∨b=C) X.K hy (z.inv.less fun b=>or_assoc.mp) ⟨vs,v.1,bW.mv (Mv.less fun b q=>q.elim (fun q=>q.imp (fun q=>q.imp id .inl) id) fun(q:b=D)=>.inl (.inr (.inr q))) v.2⟩ (fun b (o:b=D)=>o▸nD) e2
  fun aE s2 y=>⟨m,hm.at' fun o e=>y.aF.keep C o e fun q=>q.elim z.nH fun q=>isSome_none (DM (.inr (.inr q))) z.nC,fun h' di=>⟨aE,Sz X.I z y di⟩⟩)
end
end
section
noncomputable def xc(sc:Scope):Env:={scope:=sc,locals:=0,globals:=mainGlobals,cells:=[],qual:=⟨#[]⟩,builtins:=builtinsNs}
section
variable {T:Tab} {S:cf} {lv F:Nat} {sc:Scope} {nm:List (Str×Nat)} {n:Nat} {K:Frag}
variable {ae:Addr→Prop} {hs:List aI} {ps:Nat→Addr×Addr} {st:St} {s:Shared} {A:Around}
theorem al3{env:Env}(KK:ef env sc nm hs):swappedStores ts v env=swappedStores ts v (xc sc):=by
 have h:swappedStores ts v env=swappedStores ts v (xc env.scope):=rfl
 rw[h,KK.scope]
def sr(sc:Scope)(t v:Expr)(r:Option (List Str)):Bool:=casesOn (motive:=fun _=>Bool) (pureOf (swappedStores [t] v (xc sc))) false fun q=>q==r
theorem EF{env:Env}(h:sr sc t v r=true)(KK:ef env sc nm hs):swappedStores [t] v env=pure r:=by
 rw[al3 KK]
 unfold sr at h
 cases e:pureOf (swappedStores [t] v (xc sc))with
 |none=>rw[e]at h;cases h
 |some q=>rw[e]at h;exact eq_of_beq (show(q==r)=true from h)▸of_pureOf e
theorem alf{env:Env}(h:lK v=true):swapsWithSole [t] v l env=pure false:=vQ h
theorem BP.sp(x:BP w aa ae hs ps is st af s s'):SP w aa ae hs ps ps st af s s':=
 ⟨x.inv,x.aF.mono fun b q=>.inl (.inl q.ho),fun b o=>.inl (x.bc.mem o),x.bc.len,fun c' e=>(x.bc.own 0 c' e).imp fun c k=>⟨k.1,rfl,k.2⟩⟩
theorem alp(h:SE w aa T S lv sc nm n e v)(ht:kD nm is es=true)(hn:lK v=true)(hw:sr sc (.Tuple es k tp) v none=true):
  SS w aa T S lv F sc nm n (.fK is e) (.Assign [.Tuple es k tp] v pos):=by
 intro A env ae hs ps st s f af X hx
 refine aN hx fun d aj e1 e=>aK e fun bU e2 e=> ?_
 cases e
 exact Assign_Tuple (wm (h.f X e1) fun u s1 z1=>wm (Bj (t:=.many is) (e:=.Tuple es k tp) X.K X.R.hd ht z1.e.inv z1.r e2) fun _ s2 z2=>⟨ps,z1.e.sp.trans z2.sp,rfl⟩) (alf hn) (EF hw X.K)
theorem ef.quiet{env}(KK:ef env sc nm hs):interactive env=false:=by unfold interactive;rw[KK.scope,KK.kind];rfl
theorem alq(h:SE w aa T S lv sc nm n e x)(hn:lK x=true):SS w aa T S lv F sc nm n (.drop e) (.Expr x pos):=by
 intro A env ae hs ps st s f af X hx
 refine aN hx fun r aj e1 e=> ?_
 have go:f=.next∧af=aj:=by
  cases r with
  |val d=>exact KH (C:=fun _=>f=.next∧af=aj) e fun _ e=>have q:=Option.some.inj e;⟨(congrArg Prod.fst q).symm,(congrArg Prod.snd q).symm⟩
  |_=>exact ba e
 exact wpAny_Expr_any (wm (h X e1) fun v s1 z1=>⟨ps,go.2▸z1.e.sp,by rw[go.1];rfl⟩) X.K.quiet (vQ hn)
theorem DB{env:Env}(KK:ef env sc nm hs)(hx:nm.lookup x=some i)(hd:(x==("__debug__":Str))=false)(I:Inv w aa ae hs ps st s)(e:st.get i=.own c)(h:Q (.ref (ps i).1) s):wpAny (ah w) A (eval (.Name x p) env) Q aG s:=
 wpAny_Name (DA KK hx (fun k hk=>(I.own e hk).1) h) hd
theorem alO{tk:Nat}(e:Heap.SameBut a s.heap h')(hW:W a)(ha:(h'.get? a).isSome=true):cy W s {s with heap:=h',toks:=tk}:=
 ⟨h',tk,rfl,fun b o q n=>(e.2 b fun z=>n (z▸hW)).trans q,fun b q=>if z:b=a then(isSome_none ha (z▸q)).elim else(e.2 b z).symm.trans q⟩
theorem AP{aj:St}(y:EP w aa ae hs ps st aj s s1)(e:aj.get i=.own c)(ha:c.aU (ps i) a)(ha':c'.aU (ps i) a)(ho:∀b,c'.aU (ps i) b→c.aU (ps i) b)
  (z:(∃h' tk,s'={s1 with heap:=h',toks:=tk}∧Heap.SameBut a s1.heap h')∧cW w s'.heap (OO ae hs ps aj) (ps i) c'):∃aE,QX w aa ae hs ps aE st (aj.set i (.own c')) s .next .next s':=
 z.1.elim fun h' q=>q.elim fun tk q=>⟨ps,(y.trans (y.inv.upd e (q.1▸alO q.2 ha (by have:=z.2.ok ha';rw[q.1]at this;exact this)) z.2 ho)).sp,rfl⟩
theorem alm{ev:Expr}(h:SE w aa T S lv sc nm n e ev)(hx:nm.lookup x=some i)(hd:(x==("__debug__":Str))=false)(hn:notStar ev=true)(hl:(ap.endLine==cp.line)=true):
  SS w aa T S lv F sc nm n (.app i e) (.Expr (.Call (.Attribute (.Name x p) "append" ap) [ev] [] cp) pos):=by
 intro A env ae hs ps st s f af X nU
 have e:LX i (Mine.ev T S e) st (st.get i)=some (f,af):=nU
 refine lN e fun c0 ud e=> ?_
 revert ud
 refine FF e fun l0 e Ld=>aN e fun d aj e1 e=>lN e fun c1 Cy e=> ?_
 revert Cy
 refine FF e fun l e jC=>aX e fun CL e=> ?_
 cases e
 have Lo:starEach [ev] env=[(false,eval ev env)]:=mZ hn
 refine wpAny_Expr_any (wpAny_Call_append rfl (by rw[Lo];rfl) hl (by rw[Lo];rfl) (DB X.K hx hd X.I Ld ?_)) X.K.quiet (vQ rfl)
 refine(X.I.cell Ld).elim fun Fe a0=>a0.1.2.elim fun n0 o0=>⟨(ps i).1,Fe.toArray,rfl,⟨_,n0,o0,rfl,rfl,rfl⟩,wm (h.f X e1) fun u s1 z1=>(z1.e.inv.cell jC).elim fun vs a1=> ?_⟩
 refine wpAny_list_append_plain (items:=vs.toArray) ⟨a1.1.2.choose,a1.1.2.choose_spec⟩ (fun h5 xZ qY=> ?_) (by rw[sizeLine_eq];simpa using a1.1.1)
 exact AP (a:=(ps i).1) (c':=.lst (l++[d])) z1.e jC rfl rfl (fun b o=>o) ⟨⟨h5,s1.toks,rfl,qY⟩,vs++[u],⟨by rw[length_append,a1.2.length];exact of_decide_eq_true CL,xZ.elim fun n' e'=>⟨n',by rw[e'];simp⟩⟩,
  bW.mv ⟨fun b o e nn=>(qY.2 b fun q=>nn (q▸.inr (.inr ⟨i,_,jC,rfl⟩))).trans e,fun _ _ nn=>nn⟩ (a1.2.app (bW.cons z1.r rfl))⟩
theorem alx(hk:SE w aa T S lv sc nm n k xk)(he:SE w aa T S lv sc nm n e xe)(hx:nm.lookup x=some i)(hd:(x==("__debug__":Str))=false)(hn:lK xe=true):
  SS w aa T S lv F sc nm n (.fF i k e) (.Assign [.Subscript (.Name x p) xk sp] xe pos):=by
 intro A env ae hs ps st s f af X nU
 refine aN nU fun d aj e1 e=>lN e fun c1 Cy e=>aN e fun k' bU e2 e=>lN e fun c hc e=> ?_
 refine wpAny_Assign_Subscript (wm (he.f X e1) fun v s1 z1=>DB X.K hx hd z1.e.inv Cy (wm (hk.f (X.next z1.e) e2) fun u s2 z2=> ?_)) (vQ hn)
 have y:=z1.e.trans z2.e
 have rv:RV w s2.heap (OO ae hs ps bU) v d:=bk.mv z2.e.mv z1.r
 have cl:=y.inv.cell hc
 have ow:=fun b (o:c.aU (ps i) b)=>show OO ae hs ps bU b from .inr (.inr ⟨i,_,hc,o⟩)
 cases c with
 |lst l=>
  have rk:=z2.r
  revert rk
  refine nG (C:=fun k'=>RV w s2.heap _ u k'→_) e fun nn e rk=>aK e fun j hj e=> ?_
  cases e
  cases rk with|mk t=>
  exact wm (akS cl (ow _ rfl) rv hj) fun _ s3 z3=>AP y hc (c':=.lst (l.set j d)) rfl rfl (fun b o=>o) z3
 |aq l=>
  refine aX e fun jb e=>aS jb fun jb _=> ?_
  cases e
  exact wm (akR jb cl (ow _ rfl) z2.r rv X.un) fun _ s3 z3=>AP y hc (c':=.aq (dh l k' d)) rfl rfl (fun b o=>o) z3
 |inst c fs=>exact ba e
theorem ajl(r:RV w h O v d):∀{fs:List (Str×AV)} {es},eB w h O es fs→eB w h O (putL x (PyData.keyHash w.params x) (.str x t) v es) (nE fs x d):=fun {fs}=>by
 induction fs with
 |nil=>intro es z;obtain rfl:es=[]:=z;exact gA.cons r rfl
 |cons p fs ih=>
  intro es z
  cases z with|mk a q=>
  cases a with|@mk t' u a=>
  rw[aaM]
  unfold putL
  cases hq:p.1==x with
  |true=>rw[if_pos (show Value.isStr (.str p.1 _) x=true from hq)];exact .mk (.mk r) q
  |false=>rw[if_neg (show ¬Value.isStr (.str p.1 _) x=true from fun e=>nomatch hq.symm.trans e)];exact .mk (.mk a) (ih q)
theorem ah3(es:List DictEntry):(putL x hh kv v es).length≤es.length+1:=by
 induction es with
 |nil=>exact le_refl _
 |cons e r ih=>
  unfold putL
  by_cases h:e.key.isStr x=true
  ·rw[if_pos h];exact le_succ _
  ·rw[if_neg h];exact succ_le_succ ih
theorem gA.length:∀{fs:List (Str×AV)} {es:List DictEntry},eB w h O es fs→es.length=fs.length:=fun {fs}=>by
 induction fs with
 |nil=>exact fun {es} z=>congrArg List.length z
 |cons p fs ih=>exact fun {es}=>cY.len (fun _=>ih) es
theorem SN(rf:eB w h O es fs):(!es.toArray.any (·.key.isStr x)&&es.toArray.any (·.refKey))=false:=by
 rw[←Array.any_toList,←Array.any_toList]
 show(_&&es.any _)=false
 rw[(gA.find (x:=x) rf).2.2,Bool.and_false]
theorem akP(X:K.In s.heap)(ha:tf K c x=true)(cl:cW w s.heap O p (.inst c fs))(hp:O p.1∧O p.2)(r:RV w s.heap O v d)(hl:fs.length≤100):
  wpAny (ah w) A (setAttr (.ref p.1) x v) (fun _ s'=>(∃h' tk,s'={s with heap:=h',toks:=tk}∧Heap.SameBut p.2 s.heap h')∧cW w s'.heap O p (.inst c (nE fs x d))) aG s:=by
 refine cl.elim fun es cl=>cl.2.1.2.elim fun n e2=>aS ha fun ha t6=>aS ha fun ha t5=>aS ha fun ha t4=>aS ha fun ha _=>aS ha fun t1 _=>(any_some t1).elim fun cd hc=> ?_
 have e1:=cl.1
 have IA:InstAt s.heap p.1 (instObj c p.2) c (some (dictOf es n)):=⟨e1,rfl,rfl,e2⟩
 refine set_plain X IA (eq_of_beq t6) (osa_open (s:={s with toks:=s.toks+1}) X IA t4 (eq_of_beq t5) fun b=> ?_)
 refine wpAny_bind (wpAny_pure (wpAny_bind (wpAny_bind (wpAny_loadPart e1 (wpAny_bind (Looks.at (looks_clsIn X hc.1) ?_))))))
 rw[hc.2]
 refine wpAny_pure (a:=some p.2) (wpAny_bind (wpAny_pure (wpAny_bind ?_)))
 unfold nsSet
 refine wpAny_bind (wpAny_bind (wpAny_askSetting (wpAny_pure (wpAny_bind (wpAny_mkText (wpAny_bind (wpAny_loadPart e2 ?_)))))))
 dsimp only
 rw[aRefKeyMayBeTheName_at,SN cl.2.2]
 have D':(s.heap.update p.2 (Obj.putName x (PyData.keyHash w.params x) (.str x (s.toks+1)) v)).get? p.2=some (dictOf (putL x (PyData.keyHash w.params x) (.str x (s.toks+1)) v es) (putN x es n)):=by
  rw[Heap.get?_update_self _ e2 (by rw[putName_dict];rfl),putName_dict]
 have dE:(putL x (PyData.keyHash w.params x) (.str x (s.toks+1)) v es).length≤101:=le_trans (ah3 es) (succ_le_succ (cl.2.2.length▸hl))
 exact wpAny_updatePart e2 (wpAny_bind (wpAny_lookBehind D' (pastItsLine_dict (by rw[size_toArray,sizeLine_eq];omega)) (wpAny_pure ⟨⟨_,_,rfl,Heap.SameBut.update ..⟩,_,(Heap.get?_update_ne _ _ _ _ fun z=>by rw[←z,e1]at e2;cases e2).trans e1,⟨⟨by omega,cl.2.1.1.2⟩,_,D'⟩,
  gA.mv ⟨fun b o e q=>(Heap.get?_update_ne _ _ _ _ fun z=>q (z▸hp.2)).trans e,fun _ _ q=>q⟩ (ajl r cl.2.2)⟩)))
theorem al2{env}:swapsWith e (some (.Attribute a x p)) l env=pure false:=by cases e<;>rfl
theorem alw(U:jT aa K T)(he:SE w aa T S lv sc nm n e xe)(hx:nm.lookup y=some i)(hd:(y==("__debug__":Str))=false):
  SS w aa T S lv F sc nm n (.aV i x e) (.Assign [.Attribute (.Name y p) x ap] xe pos):=by
 intro A env ae hs ps st s f af X nU
 refine aN nU fun d aj e1 e=>lN e fun c hc e=> ?_
 refine plainObj_wpAny_Assign_Attribute (wm (he.f X e1) fun v s1 z1=>DB X.K hx hd z1.e.inv hc ?_) al2
 revert hc
 refine Sh e fun c fs e hc=>aX e fun ha e=>aS ha fun ha hl=> ?_
 cases e
 have ow:=fun b (o:AC.aU (ps i) (.inst c fs) b)=>show OO ae hs ps aj b from .inr (.inr ⟨i,_,hc,o⟩)
 exact wm (akP (U.X.keeps z1.e.inv.stat) (U.nf c x ha) (z1.e.inv.cell hc) ⟨ow _ (.inl rfl),ow _ (.inr rfl)⟩ z1.r (le_of_ble_eq_true hl)) fun _ s3 z3=>AP z1.e hc (c':=.inst c (nE fs x d)) (.inr rfl) (.inr rfl) (fun b o=>o) z3
end
end
section
section
variable {ae:Addr→Prop} {hs:List aI} {ps:Nat→Addr×Addr} {st:St} {s:Shared} {A:Around}
structure TI (w:World) (aa:Heap) (ae:Addr→Prop) (hs:List aI) (I:Addr) (ps aE:Nat→Addr×Addr) (st af:St) (s s':Shared):Prop where
 inv:Inv w aa (fun b=>ae b∨b=I) hs aE af s'
 aF:cy (fun b=>HO hs b∨Own ps st b∨b=I) s s'
 own:∀b,Own aE af b→Own ps st b∨s.heap.get? b=none
 len:af.length=st.length
 fst:∀c',af.get 0=.own c'→∃c,st.get 0=.own c∧aE 0=ps 0∧∀b,c'.aU (aE 0) b→c.aU (ps 0) b
theorem TI.trans{aj bU}(x:TI w aa ae hs I ps gn st aj s s1)(y:SP w aa (fun b=>ae b∨b=I) hs gn yW aj bU s1 s2):TI w aa ae hs I ps yW st bU s s2:=
 ⟨y.inv,x.aF.trans y.aF fun b o=>o.elim (fun o=>.inl (.inl o)) fun o=>(x.own b o).imp (fun o=>.inr (.inl o)) id,fun b o=>(y.own b o).elim (x.own b) fun q=>.inr (x.aF.gone b q),y.len.trans x.len,fun c' e=>(y.fst c' e).elim fun c1 k1=>(x.fst c1 k1.1).imp fun c2 k2=>⟨k2.1,k1.2.1.trans k2.2.1,fun b o=>k2.2.2 b (k1.2.2 b o)⟩⟩
theorem TI.mv{aj}(x:TI w aa ae hs I ps gn st aj s s1):Mv s.heap s1.heap (OO (fun b=>ae b∨b=I) hs ps st) (OO (fun b=>ae b∨b=I) hs gn aj):=
 ⟨fun b o e nn=>x.aF.keep b o e fun q=>q.elim (fun q=>nn (.inr (.inl q))) fun q=>q.elim (fun q=>nn (.inr (.inr q))) fun q=>nn (.inl (.inr q)),
  fun b e nn q=>q.elim (fun q=>nn (.inl q)) fun q=>q.elim (fun q=>nn (.inr (.inl q))) fun q=>(x.own b q).elim (fun q=>nn (.inr (.inr q))) fun q=>isSome_none e q⟩
structure FE (w:World) (aa:Heap) (ae:Addr→Prop) (hs:List aI) (I:Addr) (ps aE:Nat→Addr×Addr) (st af:St) (s:Shared) (f:br) (fl:Flow) (s':Shared):Prop where
 inv:Inv w aa ae hs aE af s'
 aF:Fy (fun b=>b=I) (fun b=>HO hs b∨Own ps st b∨b=I) s s'
 own:∀b,Own aE af b→Own ps st b∨s.heap.get? b=none
 len:af.length=st.length
 fst:∀c',af.get 0=.own c'→∃c,st.get 0=.own c∧aE 0=ps 0∧∀b,c'.aU (aE 0) b→c.aU (ps 0) b
 r:FR w aa ae hs aE af s s' fl f
structure FT (w:World) (aa:Heap) (ae:Addr→Prop) (hs:List aI) (I:Addr) (ps aE:Nat→Addr×Addr) (st af:St) (s:Shared) (Sx:Nat→Heap→Prop) (b:AV→St→Option (br×St)) (l:List AV) (f:br) (cF:St) (i m:Nat) (s':Shared):Prop where
 m:m=l.length-i+1
 le:i≤l.length
 t:TI w aa ae hs I ps aE st af s s'
 h:Sx i s'.heap
 n:¬Own aE af I
 e:cG b (l.drop i) af=some (f,cF)
theorem TI.ret(t:TI w aa ae hs I ps aE st af s s')(k:∀b,s1.heap.get? b=none→s.heap.get? b=none)(x:FR w aa (fun b=>ae b∨b=I) hs aE af s1 s' fl (.ret r)):FE w aa ae hs I ps aE st af s (.ret r) fl s' where
 inv:=t.inv.less fun b q=>.inl q
 aF:=t.aF.imp fun h q=>q.imp fun tk q=>⟨q.1,q.2.1,fun b _=>q.2.2 b⟩
 own:=t.own
 len:=t.len
 fst:=t.fst
 r:=x.imp fun v x=>⟨x.1,by
  have less:∀b,OO ae hs aE af b→OO (fun b=>ae b∨b=I) hs aE af b:=fun b q=>q.imp .inl id
  cases r with
  |val d=>exact bk.mv (Mv.less less) x.2
  |loc j=>exact x.2
  |fresh c=>exact x.2.imp fun p q=>⟨q.1,fun b o=>k b (q.2.1 b o),q.2.2.1.mv (fun _ _ _ e=>e) (Mv.less fun b q=>q.imp (less b) id),q.2.2.2.less fun b q=>q.imp .inl id⟩⟩
theorem TI.done{tk:Nat}(t:TI w aa ae hs I ps aE st af s s')(nI:¬ae I∧¬HO hs I∧¬Own ps st I)(kp:∀b o,b≠I→s'.heap.get? b=some o→h'.get? b=some o):FE w aa ae hs I ps aE st af s .next .next {s' with heap:=h',toks:=tk} where
 inv:=(t.inv.yG ⟨.inr rfl,nI.2.1⟩ kp).less fun b q=>⟨.inl q,fun z=>nI.1 (z▸q)⟩
 aF:=t.aF.elim fun hx q=>q.elim fun tx q=>by
  obtain⟨rfl,k1,g1⟩:=q
  exact⟨h',tk,rfl,fun b o e q=>kp b o (fun z=>q (.inr (.inr z))) (k1 b o e q),fun b q e=>g1 b (none_of fun o z=>ez (kp b o q z) e)⟩
 own:=t.own
 len:=t.len
 fst:=t.fst
 r:=rfl
theorem aaA{env:Env}
  (X:IS w aa lv sc nm n A env (fun b=>ae b∨b=I) hs ps st s) (hb:iz w aa T S lv F sc nm n b body) (ht:l6 nm t target=true)
  (Wk:Walks ey w A I fp [I] l.length P Sx) (mF:∀i h,Sx i h→qa h I) (h0:Sx 0 s.heap) (nI:¬ae I∧¬HO hs I∧¬Own ps st I)
  (jB:∀b∈fp,(s.heap.get? b).isSome=true∧¬HO hs b∧¬Own ps st b)
  (hP:∀i x,i<l.length→P i x→∃d,l[i]? =some d∧RV w s.heap (OO (fun b=>ae b∨b=I) hs ps st) x d)
  (hl:cG (eG t (bj T S F b)) l st=some (f,cF)) (fin:∀aE fl s',FE w aa ae hs I ps aE st cF s f fl s'→R (.ok fl) s'):
  codeAny (ah w) A (.forLoop target (.ref I) body [] env) R s:=by
 refine aaz (fun m s'=>∃i gn aj,FT w aa ae hs I ps gn st aj s Sx (eG t (bj T S F b)) l f cF i m s') ?_ (l.length+1) ⟨0,ps,st,rfl,zero_le _,⟨X.I,.refl,fun b o=>.inl o,rfl,fun c e=>⟨c,e,rfl,fun _ x=>x⟩⟩,h0,nI.2.2,hl⟩
 intro m s1 z
 refine z.elim fun i z=>z.elim fun gn z=>z.elim fun aj z=> ?_
 by_cases dB:i<l.length
 ·refine Wk.item i _ _ _ dB z.h fun v h' tk pv h2 kp=>Mp (mF _ _ h2) ((hP i v dB pv).elim fun d hd=> ?_)
  have uJ:=LD (s:=s1) (tk:=tk) (mF _ _ h2) kp
  have t2:TI w aa ae hs I ps gn st aj s {s1 with heap:=h',toks:=tk}:=⟨z.t.inv.chg uJ fun b q=>⟨.inr q,q▸nI.2.1⟩,z.t.aF.trans uJ fun b q=>.inl (.inr (.inr q)),z.t.own,z.t.len,z.t.fst⟩
  have e:=z.e
  rw[IG dB hd.1]at e
  refine aN e fun f1 pQ b1 e=>aK b1 fun bU b2 b3=>wm (Bj X.K X.R.hd ht t2.inv (bk.mv t2.mv hd.2) b2) fun _ s2 z2=> ?_
  have t3:=t2.trans z2.sp
  refine wm (hb ⟨X.R,X.K,z2.inv,t3.len.trans X.L⟩ b3) fun fl s3 z3=>z3.elim fun uL z3=> ?_
  have t4:=t3.trans z3.sp
  have r3:=z3.r
  cases f1 with
  |next=>
   obtain rfl:fl=.next:=r3
   exact⟨_,z.m▸Fc dB,i+1,uL,pQ,rfl,dB,t4,Wk.frame _ _ _ h2 fun b lH o e=>z3.sp.aF.keep b o (z2.aF.keep b o e fun q=>(jB b lH).2.1 q.ho) fun q=>q.elim (jB b lH).2.1 fun q=>(t3.own b q).elim (jB b lH).2.2 (isSome_none (jB b lH).1),
    fun q=>q.elim fun j q=>q.elim fun c q=>(z3.sp.inv.apart j c I q.1 q.2).1 (.inr rfl),e⟩
  |ret r=>
   cases e
   have g:=fin uL fl s3 (t4.ret t3.aF.gone r3)
   exact r3.elim fun v q=>by obtain rfl:=q.1;exact g
 ·obtain rfl:i=l.length:=le_antisymm z.le (le_of_not_lt dB)
  have e:=z.e
  rw[drop_length]at e
  cases e
  exact Wk.done _ _ _ z.h fun h' tk kp=>fin gn .next _ (z.t.done nI fun b o q e=>kp b o (fun z=>q (mem_singleton.mp z)) e)
theorem FE.sp{aj af:St}(z:EP w aa ae hs ps st aj s s1)(k:Kp s1 s2)(nI:s1.heap.get? I=none)(x:FE w aa ae hs I ps aE aj af s2 f fl s'):QX w aa ae hs ps aE st af s f fl s':=by
 refine⟨z.sp.trans ⟨x.inv,x.aF.elim fun h3 q=>q.elim fun t3 q=> ?_,fun b o=>(x.own b o).imp id (n4 k.keep b),x.len,x.fst⟩,x.r.back fun b e=>z.aF.gone b (n4 k.keep b e)⟩
 obtain⟨h2,t2,rfl,k2⟩:=k
 exact⟨h3,t3,q.1,fun b o e n=>q.2.1 b o (k2 b o e) fun z=>z.elim (fun z=>n (.inl z)) fun z=>z.elim (fun z=>n (.inr z)) fun z=>ez e (z▸nI),fun b e=>if q':b=I then q'▸nI else n4 k2 b (q.2.2 b q' e)⟩
theorem alr(he:SE w aa T S lv sc nm n e iter)(kR:oa iter=true)(hb:iz w aa T S lv F sc nm n b body)(ht:l6 nm t target=true):
  SS w aa T S lv F sc nm n (.bz t e b) (.For target iter body [] pos):=by
 intro A env ae hs ps st s f af X hx
 refine aN hx fun d aj e1 e=>aK e fun l e2 e=> ?_
 refine wpAny_For (wm (he.f X e1) fun v s1 z1=>wm (LH e2 z1.r z1.e.inv.bB) fun it s2 z2=>z2.elim fun I z2=> ?_) (OX kR)
 rw[z2.1]
 refine(z2.2 A X.R.hd).elim fun fp y=>y.elim fun P y=>y.elim fun Sx y=> ?_
 obtain⟨Wk,x8,bR,eI,jB,hP,mF⟩:=y
 have DN:∀{b},OO ae hs ps aj b→b≠I:=fun o q=>isSome_none (z1.e.inv.bB _ o) (q▸eI.1)
 exact aaA (t:=t) (b:=b) ⟨X.R,X.K,z1.e.inv.pw (F:=fun b=>b=I) bR fun b q=>q▸eI,z1.e.ln X.L⟩ hb ht Wk mF x8 ⟨fun q=>DN (.inl q) rfl,fun q=>DN (.inr (.inl q)) rfl,fun q=>DN (.inr (.inr q)) rfl⟩ (fun b hb=>⟨(jB b hb).1,fun q=>(jB b hb).2 (show OO ae hs ps aj b from .inr (.inl q)),fun q=>(jB b hb).2 (show OO ae hs ps aj b from .inr (.inr q))⟩)
  (fun i x hi hx=>(hP i x hi hx).imp fun d r=>⟨r.1,bk.mv (Mv.less fun c q=>q.elim (fun q=>q.imp .inl id) fun q=>.inl (.inr q)) r.2⟩) e fun aE fl s' q=>⟨aE,q.sp z1.e bR eI.1⟩
structure WT (w:World) (aa:Heap) (ae:Addr→Prop) (hs:List aI) (ps gn:Nat→Addr×Addr) (st aj:St) (s:Shared) (c:St→Option (Bool×St)) (b:St→Option (br×St)) (f:br) (cF:St) (m:Nat) (s':Shared):Prop where
 sp:SP w aa ae hs ps gn st aj s s'
 e:gS c b m aj=some (f,cF)
theorem amE{env:Env}(X:IS w aa lv sc nm n A env ae hs ps st s)(hc:ST w aa T S lv sc nm n c test)(hb:iz w aa T S lv F sc nm n b body)
  (fin:∀aE fl s',QX w aa ae hs ps aE st cF s f fl s'→R (.ok fl) s') (m:Nat) (h:gS (iJ (ev T S c)) (bj T S F b) m st=some (f,cF)):
  codeAny (ah w) A (.whileLoop test body [] env) R s:=by
 refine codeAny_whileLoop (fun m s'=>∃gn aj,WT w aa ae hs ps gn st aj s (iJ (ev T S c)) (bj T S F b) f cF m s') ?_ m ⟨ps,st,.refl X.I,h⟩
 intro m s1 z
 refine z.elim fun gn z=>z.elim fun aj z=> ?_
 have e:=z.e
 cases m with
 |zero=>exact ba e
 |succ m=>
  refine aN e fun x bU e1 e=>jJ (wm (hc (X.DR z.sp) e1) fun q s2 z2=> ?_)
  have p2:=z.sp.trans z2.z.sp
  rw[z2.e]
  cases x with
  |false=>
   cases e
   exact jJ (wpAny_execs_nil (fin gn .next _ ⟨p2,rfl⟩))
  |true=>
   refine aN e fun f1 pQ e3 e=>jJ (wm (hb (X.DR p2) e3) fun fl s3 z3=>z3.elim fun uL z3=> ?_)
   have r3:=z3.r
   cases f1 with
   |next=>
    obtain rfl:fl=.next:=r3
    exact⟨m,Nat.lt_succ_self _,uL,pQ,p2.trans z3.sp,e⟩
   |ret r=>
    cases e
    have g:=fin uL fl _ (z3.back p2)
    exact r3.elim fun v q=>by obtain rfl:=q.1;exact g
theorem aly(hc:ST w aa T S lv sc nm n c test)(hb:iz w aa T S lv F sc nm n b body):SS w aa T S lv F sc nm n (.gw c b) (.While test body [] pos):=by
 intro A env ae hs ps st s f af X hx
 exact wpAny_While (amE X hc hb (fun aE fl s' p=>⟨aE,p⟩) F hx)
end
end
section
noncomputable def rj:List Expr→List Str
 |[]=>[]
 |e::r=>if h:e.ctorIdx=23 then Expr.Name.elim (motive_1:=fun _=>List Str) e h fun x _=>x::rj r else []
section
variable {ae:Addr→Prop} {hs:List aI} {ps:Nat→Addr×Addr} {st:St} {s:Shared} {A:Around}
theorem agg:∀{is} {es},kD nm is es=true→fY nm (rj es) is:=fun {is}=>by
 induction is with
 |nil=>intro es ht;obtain rfl:=isEmpty_iff.mp ht;exact rfl
 |cons i is ih=>
  intro es ht
  refine AN ht fun x p er hx ht=> ?_
  exact .mk hx (ih ht)
theorem fY.len:∀{xs:List Str} {is:List Nat},fY nm xs is→is.length=xs.length:=fun {xs}=>by
 induction xs with
 |nil=>exact fun {is} x=>congrArg List.length x
 |cons x xs ih=>exact fun {is}=>cY.len (fun _=>ih) is
theorem NP:∀{is:List Nat} {rs:List (Option AV)} {st af},hZ is rs st=some af→is.length=rs.length:=fun {is}=>by
 induction is with
 |nil=>intro rs st af h;cases rs with
  |nil=>rfl
  |cons=>exact ba h
 |cons i is ih=>intro rs st af h;cases rs with
  |nil=>exact ba h
  |cons d rs=>exact aK h fun _ _ h=>congrArg Nat.succ (ih h)
theorem YL(me:aR):∀{st af} {ds:List (Option AV)},qH T S me st=some (ds,af)→ds.length=me.len:=by
 induction me using aR.ind with
 |h0=>intro st af ds h;refine bY h ?_;exact rfl
 |h1 a r ih=>intro st af ds h;refine aN h fun d aj h1 e=>aN e fun g8 bU h2 e=> ?_;cases e;exact congrArg Nat.succ (ih h2)
 |h2 r ih=>intro st af ds h;refine aN h fun g8 bU h2 e=> ?_;cases e;exact congrArg Nat.succ (ih h2)
theorem QA.kp{af}{rs}{a}{F}{vs}{s1 s2}(z:QA w aa ae hs ps st af s rs a F vs s1)(k:Kp s1 s2):QA w aa ae hs ps st af s rs a F vs s2:=
 ⟨z.inv.kp k,z.aF.trans (W':=fun _=>False) k.aF fun _ q=>q.elim,z.bc,z.new,fun q=>⟨(z.one q).1,(z.one q).2.move fun o e=>k.keep _ _ e⟩,z.r.mv k.mv⟩
theorem QA.fin{env:Env}{aj af:St}{rs vE:List (Option AV)}{a:Addr}{F:Addr→Prop}{vs lx:List Value}(X:IS w aa lv sc nm n A env ae hs ps st s)(z:QA w aa ae hs ps st aj s rs a F vs s3)
  (hf:kI w env xs fs) (hl:fY nm xs is) (hn:dw vE=dw rs) (h1:dw rs≤1) (r:RA w s3.heap (OO (fun b=>ae b∨F b) hs ps aj) a vE lx) (e:hZ is vE aj=some af):
  wpAny (ah w) A (assignInOrder fs lx) (fun _ s'=>∃aE,QX w aa ae hs ps aE st af s .next .next s') aG s3:=
 wm (ahY X.K hf hl (hn▸h1) z.inv (fun b q=>(z.new b q).1) (hn▸z.one) (fun b q o=>isSome_none (X.I.bB b (z.bc.OO o)) (z.new b q).2) r e) fun _ s4 y=>y.imp fun aE y=>⟨⟨y.inv,(z.aF.mono fun b o=>.inl (.inr o)).trans y.aF fun b o=>.inl (o.imp id z.bc.mem),
  fun b o=>(y.own b o).imp z.bc.mem fun q=>(z.new b q).2,y.len.trans z.bc.len,fun c' e=>(y.fst c' e).elim fun c1 k1=>(z.bc.own 0 c1 k1.1).imp fun c2 k2=>⟨k2.1,k1.2.1,fun b o=>k2.2 b (k1.2.2 b o)⟩⟩,rfl⟩
theorem alo(h:oK w aa T S lv sc nm n es xs)(ht:kD nm is elts=true)(hn:es.len≤1000)
  (hw:sr sc (.Tuple elts k tp) (.Tuple xs kk vp) (if rev then some (rj elts)else none)=true):
  SS w aa T S lv F sc nm n (.eZ rev is es) (.Assign [.Tuple elts k tp] (.Tuple xs kk vp) pos):=by
 intro A env ae hs ps st s f af X hx
 refine aN hx fun rs aj e1 e=>aX e fun mD e=>aK e fun bU e2 e=> ?_
 cases e
 have mD:=le_of_ble_eq_true mD
 have IZ:wpAny (ah w) A (eval (.Tuple xs kk vp) env) (fun v s2=>∃t vs a F,v=.ref t∧TupAt s2.heap t vs∧QA w aa ae hs ps st aj s rs a F vs s2) aG s:=
  wpAny_Tuple (wm (h vp X e1 mD) fun vs s1 z=>z.elim fun a z=>z.elim fun F z=>have hlen:=z.r.len.trans (YL es e1)
   ⟨by rw[sizeLine_eq];omega,_,vs,a,F,rfl,⟨by omega,0,Heap.get?_push_size _ rfl⟩,z.kp (.og (o:={cls:=.type "tuple",data:=.seq vs.toArray}))⟩)
 cases rev with
 |false=>
  have q:=IK (env:=env) ht
  refine Assign_Tuple (wm IZ fun v s2 z=>z.elim fun t z=>z.elim fun vs z=>z.elim fun a z=>z.elim fun F z=> ?_) rfl (EF hw X.K)
  rw[z.1]
  exact assign_Tuple_tuple X.R.hd z.2.1.jE (by rw[q.1,NP e2,←z.2.2.r.len];simp) q.2 fun h' he=>(kI.each (env:=env) ht).elim fun ys y=>have z':=z.2.2.kp ⟨h',s2.toks,rfl,fun b o e=>he b o (ne_of_lt (Heap.lt_size e)) e⟩;z'.fin X y.1 y.2 rfl mD z'.r e2
 |true=>
  refine Assign_Tuple_swapped (wm IZ fun v s2 z=>z.elim fun t z=>z.elim fun vs z=>z.elim fun a z=>z.elim fun F z=> ?_) rfl (EF hw X.K)
  have q:=agg ht
  have hl:(rj elts).length=vs.toArray.size:=by rw[size_toArray,←q.len,z.2.2.r.len,←List.length_reverse,NP e2,List.length_reverse]
  rw[z.1,hl]
  exact unpackItems_tuple X.R.hd z.2.1.jE fun h' he=>have z':=z.2.2.kp ⟨h',s2.toks,rfl,fun b o e=>he b o (ne_of_lt (Heap.lt_size e)) e⟩;z'.fin X (kI.bind _) q.rev (agz rs) mD z'.r.rev e2
end
end
section
noncomputable def D8(p:Arguments)(names:List Str):Bool:=p.posonlyargs.isEmpty&&p.vararg.isNone&&p.kwonlyargs.isEmpty&&p.kwarg.isNone&&(p.args.map (·.arg)==names)&&decide names.Nodup
section
theorem Mx:∀{ns:List Str} {vs:List Value},x∉ns→(ns.zip vs).lookup x=none:=fun {ns}=>by
 induction ns with
 |nil=>exact fun _=>rfl
 |cons n ns ih=>
  intro vs h
  cases vs with
  |nil=>rfl
  |cons v vs=>rw[zip_cons_cons,lookup_cons,beq_false_of_ne fun(q:x=n)=>h (q▸mem_cons_self ..)];exact ih fun q=>h (mem_cons_of_mem _ q)
theorem uB:∀{ns:List Str} {vs:List Value} {i:Nat},ns.Nodup→ns[i]? =some x→(ns.zip vs).lookup x=vs[i]? :=fun {ns}=>by
 induction ns with
 |nil=>exact fun _ h=>nomatch h
 |cons n ns ih=>
  intro vs i hn h
  cases vs with
  |nil=>cases i<;>rfl
  |cons v vs=>
   rw[zip_cons_cons,lookup_cons]
   cases i with
   |zero=>obtain rfl:n=x:=Option.some.inj h;rw[beq_self_eq_true];rfl
   |succ i=>rw[beq_false_of_ne fun(q:x=n)=>(nodup_cons.mp hn).1 (q▸mem_of_getElem? h)];exact ih (nodup_cons.mp hn).2 h
theorem ae3{f:Str×Value→List (Str×Value)→Sem (ForInStep (List (Str×Value)))}(hf:∀x d sl,f (x,d) sl=if(sl.lookup x).isNone=true then pure (ForInStep.yield (sl++[(x,d)]))else pure (ForInStep.yield sl)):
  ∀(ps sl:List (Str×Value)),(ps.map (·.1)).Nodup→forIn ps sl f=pure (sl++ps.filter fun p=>(sl.lookup p.1).isNone):=fun ps=>by
 induction ps with
 |nil=>intro sl _;rw[List.filter_nil,append_nil];rfl
 |cons q ps ih=>
  intro sl hn
  have hn:=nodup_cons.mp hn
  rw[forIn_cons,hf,List.filter_cons]
  by_cases h:(sl.lookup q.1).isNone=true
  ·rw[if_pos h,if_pos h,pure_bind]
   refine(ih _ hn.2).trans (congrArg pure ?_)
   rw[append_assoc]
   refine congrArg (sl++q:: ·) (List.filter_congr fun p hp=> ?_)
   rw[List.lookup_append,lookup_cons,beq_false_of_ne fun e=>hn.1 (mem_map.mpr ⟨p,hp,e⟩),List.lookup_nil,Option.or_none]
  ·rw[if_neg h,if_neg h,pure_bind]
   exact ih _ hn.2
theorem ae1(h:∀d,p (x,d)=true)(ps:List (Str×Value)):(ps.filter p).lookup x=ps.lookup x:=by
 induction ps with
 |nil=>rfl
 |cons q r ih=>
  rw[List.filter_cons,lookup_cons]
  by_cases e:x=q.1
  ·subst e;rw[if_pos (h q.2),lookup_cons];simp only[beq_self_eq_true]
  ·rw[beq_false_of_ne e]
   by_cases hp:p q=true
   ·rw[if_pos hp,lookup_cons,beq_false_of_ne e];exact ih
   ·rw[if_neg hp];exact ih
theorem ZZ{g:Str→Option Value}:∀{ns:List Str} {l:List Value},l.length=ns.length→(∀(i:Nat) (x),ns[i]? =some x→g x=l[i]?)→(ns.filterMap fun n=>(g n).map fun v=>(n,v))=ns.zip l:=fun {ns}=>by
 induction ns with
 |nil=>exact fun _ _=>rfl
 |cons n ns ih=>
  intro l h k
  cases l with
  |nil=>exact nomatch h
  |cons v l=>
   rw[List.filterMap_cons,k 0 n rfl,zip_cons_cons]
   exact congrArg ((n,v):: ·) (ih (Nat.succ.inj h) fun i x hx=>k (i+1) x hx)
theorem agu{names:List Str}{vals:List Value}(hn:names.Nodup)(h2:names.length-vals.length≤d):(names.take (names.length-d)).filter (fun n=>((names.zip vals).lookup n).isNone)=[]:=by
 rw[List.filter_eq_nil_iff]
 intro x hx
 refine(List.mem_take_iff_getElem.mp hx).elim fun i hi=>hi.elim fun hi e=> ?_
 have hv:i<vals.length:=lt_of_lt_of_le hi (le_trans (Nat.min_le_left ..) (sub_le_iff_le_add.mpr (add_comm d vals.length▸sub_le_iff_le_add.mp h2)))
 rw[←e,uB (i:=i) hn (getElem?_eq_getElem (lt_of_lt_of_le hi (min_le_right ..))),getElem?_eq_getElem hv]
 exact noConfusion
theorem sub_le_sub{N V D:Nat}(h:N-V≤D):N-D≤V:=sub_le_iff_le_add.mpr (add_comm D V▸sub_le_iff_le_add.mp h)
theorem agj{N V D i:Nat}(h1:V≤N)(h2:N-V≤D)(h3:D≤N)(q:V≤i):i-(N-D)=D-(N-V)+(i-V):=by
 refine(Nat.exists_eq_add_of_le h1).elim fun a e=>(Nat.exists_eq_add_of_le h2).elim fun c f=>(Nat.exists_eq_add_of_le q).elim fun j g=> ?_
 subst e g
 rw[add_sub_cancel_left]at f
 subst f
 refine(Nat.exists_eq_add_of_le (Nat.le_of_add_le_add_left (add_comm V a▸h3:a+c≤a+V))).elim fun d e=> ?_
 subst e
 rw[add_sub_cancel_left,add_sub_cancel_left,add_sub_cancel_left,add_comm (c+d) a,Nat.add_sub_add_left,add_sub_cancel_left,add_right_comm,Nat.add_sub_cancel]
theorem ZY{names:List Str}{vals ds:List Value}(hn:names.Nodup)(h1:vals.length≤names.length)(h2:names.length-vals.length≤ds.length)(h3:ds.length≤names.length):
  (List.filterMap (fun n=>Option.map (fun x=>(n,x)) (List.lookup n (names.zip vals++List.filter (fun p=>(List.lookup p.1 (names.zip vals)).isNone) ((List.drop (names.length-ds.length) names).zip ds)))) names)=names.zip (vals++ds.drop (ds.length-(names.length-vals.length))):=by
 refine ZZ (by rw[length_append,length_drop,Nat.sub_sub_self h2,add_sub_cancel' h1]) fun i x hx=> ?_
 have hi:=(List.getElem?_eq_some_iff.mp hx).1
 rw[List.lookup_append,uB hn hx]
 by_cases q:i<vals.length
 ·rw[getElem?_append_left q,getElem?_eq_getElem q];rfl
 ·have q':=le_of_not_lt q
  rw[getElem?_eq_none q',Option.none_or,ae1 (fun d=>by rw[uB hn hx,getElem?_eq_none q'];rfl),uB (i:=i-(names.length-ds.length)) (hn.sublist (List.drop_sublist ..)) (by rw[getElem?_drop,add_sub_cancel' (le_trans (sub_le_sub h2) q')];exact hx),
   getElem?_append_right q',getElem?_drop]
  exact congrArg (ds[·]?) (agj h1 h2 h3 q')
noncomputable def Ho(names:List Str)(slots ps:List (Str×Value)):Sem (List (Str×Value)):=(forIn ps slots fun x sl=>if(sl.lookup x.1).isNone=true then pure (ForInStep.yield (sl++[(x.1,x.2)]))else pure (ForInStep.yield sl))>>=fun slots=>pure (names.filterMap fun n=>(slots.lookup n).map fun x=>(n,x))
def Hn(E2:Sem (List (Str×Value)))(names:List Str)(slots:List (Str×Value))(ds:List Value):Sem (List (Str×Value)):=
 if(!((names.take (names.length-ds.length)).filter fun n=>(slots.lookup n).isNone).isEmpty)=true then E2 else Ho (names++[]) slots ((names.drop (names.length-ds.length)).zip ds)
def Hm(E1 E2:Sem (List (Str×Value)))(names:List Str)(vals ds:List Value):Sem (List (Str×Value)):=
 if(decide (vals.length>names.length)&&true)=true then E1 else Hn E2 names (names.zip vals) (ds.drop (ds.length-names.length))
theorem Uo{fd:FuncData}(h1:fd.params.posonlyargs=[])(h3:fd.params.vararg=none)(h4:fd.params.kwonlyargs=[])(h5:fd.params.kwarg=none):
  ∃E1 E2:Option (Array Value)→Sem (List (Str×Value)),bindArgs fd ⟨vals,[]⟩=seqItems? fd.defaults>>=fun r=>Hm (E1 r) (E2 r) (fd.params.args.map (·.arg)) vals (r.getD #[]).toList:=by
 cases fd with|mk f1 f2 f3 f4 f5 f6 f7 f8 f9 f10 f11 f12 f13 f14 f15=>
 cases f3 with|mk g1 g2 g3 g4 g5 g6 g7=>
 cases h1;cases h3;cases h4;cases h5
 exact⟨_,_,rfl⟩
theorem Ul{fd:FuncData}{names:List Str}{vals ds:List Value}{T:Addr}{o:Obj}{nn:Nat}(hp:D8 fd.params names=true)(hd:fd.defaults=.none∧ds=[]∨fd.defaults=.ref T∧s.heap.get? T=some o∧o.data=.seq ds.toArray nn)
  (h1:vals.length≤names.length) (h2:names.length-vals.length≤ds.length) (h3:ds.length≤names.length):BindsTo s fd ⟨vals,[]⟩ (names.zip (vals++ds.drop (ds.length-(names.length-vals.length)))):=by
 intro M A E Q hq
 refine aS hp fun hp p6=>gX hp fun p1 p2 p3 p4 p5=> ?_
 have p6:=of_decide_eq_true p6
 refine(Uo (vals:=vals) (isEmpty_iff.mp p1) (isNone_iff_eq_none.mp p2) (isEmpty_iff.mp p3) (isNone_iff_eq_none.mp p4)).elim fun E1 h=>h.elim fun E2 h=> ?_
 rw[h,eq_of_beq p5]
 refine wpAny_bind (wpAny_mono (Q:=fun r s'=>(r.getD #[]).toList=ds∧s'=s) (E:=fun _ _=>False) (hd.elim (fun h=> ?_) fun h=> ?_) (fun r s' z=> ?_) fun _ _ z=>z.elim)
 ·rw[h.1,h.2]
  exact wpAny_pure ⟨rfl,rfl⟩
 ·rw[h.1]
  exact wpAny_seqItems h.2.1 h.2.2 ⟨rfl,rfl⟩
 ·rw[z.1,z.2,Hm,if_neg (by rw[decide_eq_false (Nat.not_lt_of_le h1)];exact noConfusion),Nat.sub_eq_zero_of_le h3,drop_zero,Hn,agu p6 h2,if_neg noConfusion,Ho,
   ae3 (fun x d sl=>rfl) _ _ (show(((names.drop (names.length-ds.length)).zip ds).map (·.1)).Nodup by rw[List.map_fst_zip (by rw[length_drop];exact le_of_eq (Nat.sub_sub_self h3))];exact p6.sublist (List.drop_sublist ..)),pure_bind,append_nil,ZY p6 h1 h2 h3]
  exact wpAny_pure hq
end
end
section
section
def CQ(w:World)(O:Addr→Prop)(s:Shared)(p:Addr×Addr)(cin:Option AC)(cout:Option AC)(r:Res)(v:Value)(s':Shared):Prop:=match cin with
 |none=>QS w O s r v s'
 |some c=>QM w O s p c cout r v s'
def back(Q:Value→Shared→Prop)(r:Result)(s':Shared):Prop:=match r with
 |.ok (.ret v)=>Q v s'
 |.ok _=>False
 |.error _=>False
noncomputable def hV(p:Addr×Addr):Option AC→List Value
 |some _=>[.ref p.1]
 |none=>[]
def W1(p:Addr×Addr):Option AC→Addr→Prop
 |some c,b=>c.aU p b
 |none,_=>False
def AZ(w:World)(O:Addr→Prop)(h:Heap)(p:Addr×Addr):Option AC→Prop
 |some c=>cW w h O p c∧∀b,c.aU p b→O b
 |none=>True
def pZ(w:World)(aa:Heap)(S:cf)(lv:Nat):Prop:=∀{f} {cin} {vs} {r} {cout},S f cin vs=some (r,cout)→
 ∀{A} {O} {s:Shared} {vals} {p},Rm A lv→jo aa O s→au w s.heap O vals vs→AZ w O s.heap p cin→
  codeAny (ah w) A (.call (.ref f) ⟨hV p cin++vals,[]⟩) (back (CQ w O s p cin cout r)) s
theorem G9(h:codeAny (ah w) A (Code.call f ⟨vals,[]⟩) (back Q) s):wpAny (ah w) A (PySem.call f vals) Q aG s:=
 wpAny_call (codeAny_mono h fun r s' z=>by
  cases r with
  |error e=>exact z.elim
  |ok f=>cases f with
   |ret v=>exact z
   |_=>exact z.elim)
theorem Ip(C:pZ w aa S lv):jl w aa S lv where
 one:=by intro f vs r cout e A O s vals R U a;exact G9 (C (p:=(0,0)) e R U a trivial)
 two:=by intro f c vs r cout e A O s vals R U a p hc ho;exact G9 (C (p:=p) e R U a ⟨hc,ho⟩)
structure jR (w:World) (aa:Heap) (f:Addr) (fd:FuncData) (body:List Stmt) (d:FD) (names:List Str):Prop where
 obj:∃fo,aa.get? f=some fo∧fo.data=.func fd
 code:aa.CodeRec fd.code fd.qualname
 body:fd.body=.stmts body
 ed:fd.closure=[]
 glob:fd.globals=mainGlobals
 Hr:fd.builtins=builtinsNs
 kind:fd.scope.kind=.function
 co:fd.scope.isCoroutine=false
 gen:fd.scope.isGenerator=false
 np:d.np≤d.ns
 len:names.length=d.ns
 nodup:names.Nodup
 plain:D8 fd.params (names.take d.np)=true
 Iy:d.dflt.length≤d.np
 IB:fd.defaults=.none∧d.dflt=[]∨∃Tp o n ds,fd.defaults=.ref Tp∧aa.get? Tp=some o∧o.data=.seq (toArray ds) n∧au w aa (fun _=>False) ds d.dflt
 kinds:∀x∈names,fd.scope.names.lookup x=some .local∨(fd.scope.names.lookup x=some .cell∧∀n,((cellsFrom n fd.scope.names []).lookup x).isSome=true)
noncomputable def nS(env:Env)(names:List Str):List aI:=names.map fun x=>if env.kindOf x=some .local then .loc env.locals x else .jY ((env.cells.lookup x).getD 0)
theorem agv:∀{l:List α},l.Nodup→(∀x∈l,∀y∈l,f x=f y→x=y)→(l.map f).Nodup:=fun {l}=>by
 induction l with
 |nil=>exact fun _ _=>nodup_nil
 |cons a l ih=>
  intro hn hf
  have hn:=nodup_cons.mp hn
  exact nodup_cons.mpr ⟨fun q=>(mem_map.mp q).elim fun b hb=>hn.1 (hf a mem_cons_self b (mem_cons_of_mem _ hb.1) hb.2.symm▸hb.1),ih hn.2 fun x hx y hy=>hf x (mem_cons_of_mem _ hx) y (mem_cons_of_mem _ hy)⟩
theorem He{k}[DecidablePred k]{B:List (Str×Value)→(Str→Option Value)→Str→Option Value}(b0:∀m,B [] m=m)(b1:∀n v r m,B ((n,v)::r) m=B r (if k n then(fun x=>if x=n then some v else m x)else m))(hk:k x):
  ∀{ns:List Str} {vs} {m},ns.Nodup→B (ns.zip vs) m x=((ns.zip vs).lookup x).or (m x):=fun {ns}=>by
 induction ns with
 |nil=>intro vs m _;rw[List.zip_nil_left,b0];rfl
 |cons n ns ih=>
  intro vs m hn
  have hn:=nodup_cons.mp hn
  cases vs with
  |nil=>rw[List.zip_nil_right,b0];rfl
  |cons v vs=>
   rw[zip_cons_cons,b1,ih hn.2,lookup_cons]
   by_cases q:x=n
   ·subst q
    rw[if_pos hk,if_pos rfl,Mx hn.1,beq_self_eq_true]
    rfl
   ·rw[beq_false_of_ne q]
    refine congrArg (Option.or _) ?_
    by_cases q':k n
    ·rw[if_pos q',if_neg q]
    ·rw[if_neg q']
theorem alH{O:Addr→Prop}{s s1:Shared}{hs:List aI}{p:Addr×Addr}{vals:List Value}{st:St}(U:jo aa O s)(k:Kp s s1)(hl:st.length=hs.length)(hn:hs.Nodup)
  (h1:∀(i:Nat) (k:aI),hs[i]? =some k→eA s1.heap k vals[i]?) (h2:∀b,HO hs b→s.heap.get? b=none) (hc:AZ w O s.heap p cin)
  (hv:∀(i:Nat) (d:AV),st.get i=.val d→∃v,vals[i]? =some v∧RV w s.heap O v d) (ho:∀(i:Nat) (c:AC),st.get i=.own c→i=0∧cin=some c) (hz:∀c,cin=some c→vals[0]? =some (.ref p.1)):
  Inv w aa (fun b=>O b∧¬W1 p cin b) hs (fun _=>p) st s1:=by
 have oo:∀b,OO (fun b=>O b∧¬W1 p cin b) hs (fun _=>p) st b→O b∨HO hs b:=fun b q=>q.elim (fun q=>.inl q.1) fun q=>q.elim .inr fun q=>q.elim fun i q1=>q1.elim fun c q2=>.inl (by obtain⟨_,rfl⟩:=ho i c q2.1;exact hc.2 b q2.2)
 have m:Mv s.heap s1.heap O (OO (fun b=>O b∧¬W1 p cin b) hs (fun _=>p) st):=⟨fun b o e _=>k.keep b o e,fun b e n q=>(oo b q).elim n fun q=>isSome_none e (h2 b q)⟩
 exact
 {len:=hl
  nodup:=hn
  stat:=fun b o e=>k.keep b o (U.stat b o e)
  bB:=fun b q=>(oo b q).elim (fun q=>(isSome_iff_exists.mp (U.bB b q)).elim fun o e=>isSome_of_eq_some (k.keep b o e)) fun q=>q.elim fun j q=>(mem_iff_getElem?.mp q.1).elim fun i hi=>q.2▸(h1 i j hi).some
  old:=fun b q=>(oo b q).elim (U.old b) fun q=>none_of fun o h=>ez (U.stat b o h) (h2 b q)
  slot:=fun i j e=>by
   have h:=h1 i j e
   cases q:st.get i with
   |no=>exact⟨_,h⟩
   |val d=>exact(hv i d q).elim fun v e=>⟨v,e.1▸h,bk.mv m e.2⟩
   |own c=>
    obtain⟨rfl,rfl⟩:=ho i c q
    exact⟨hz c rfl▸h,hc.1.mv (fun b o _ e=>k.keep b o e) m⟩
  apart:=fun i c b e o=>by
   obtain⟨rfl,rfl⟩:=ho i c e
   exact⟨fun q=>q.2 o,fun q=>isSome_none (U.bB b (hc.2 b o)) (h2 b q),fun j c' n q=>absurd (ho j c' q).1 n⟩}
theorem IQ{O:Addr→Prop}{s s1 s2:Shared}{hs:List aI}{p:Addr×Addr}{cin cout:Option AC}{st af:St}{aE:Nat→Addr×Addr}{r r'}{v}(k:Kp s s1)
  (h2:∀b,HO hs b→s.heap.get? b=none) (ho:∀i c,st.get i=.own c→i=0∧cin=some c)
  (z:SP w aa (fun b=>O b∧¬W1 p cin b) hs (fun _=>p) aE st af s1 s2) (x:RR w aa (fun b=>O b∧¬W1 p cin b) hs aE af s1 s2 v r) (e:out cin r af=some (r',cout)):CQ w O s p cin cout r' v s2:=by
 have g1:∀b,s1.heap.get? b=none→s.heap.get? b=none:=n4 k.keep
 have D3:∀b,Own (fun _=>p) st b→W1 p cin b:=fun b q=>q.elim fun i q=>q.elim fun c q=>by obtain⟨_,rfl⟩:=ho i c q.1;exact q.2
 have aF:cy (W1 p cin) s s2:=cy.trans (W:=W1 p cin) k.aF z.aF fun b q=>q.elim (fun q=>.inr (h2 b q)) fun q=>.inl (D3 b q)
 cases cin with
 |none=>
  have oo:∀b,O b→OO (fun b=>O b∧¬W1 p none b) hs aE af b:=fun b q=>.inl ⟨q,id⟩
  have kp:Kp s s2:=aF.imp fun h' y=>y.imp fun tk y=>⟨y.1,fun b o x=>y.2.1 b o x id⟩
  refine⟨kp,?_⟩
  cases r with
  |val d=>cases e;exact bk.mv (Mv.less oo) x
  |fresh c=>cases e;exact x.imp fun q a=>⟨a.1,fun y o=>g1 y (a.2.1 y o),a.2.2.1.mv (fun _ _ _ h=>h) (Mv.less fun y q=>q.imp (oo y) id)⟩
  |loc i=>
   refine aK e fun r1 e1 e=>lN (f:=fun c=>some (Res.fresh c)) (show eV (af.get i) (fun c=>some (Res.fresh c))=some r1 from e1) fun c hi e1=> ?_
   cases e1;cases e
   exact⟨aE i,x.elim fun c h=>h.2,fun b o=>(z.own b ⟨i,c,hi,o⟩).elim (fun q=>(D3 b q).elim) (g1 b),(z.inv.cell hi).mv (fun _ _ _ h=>h) (Mv.less fun y q=>q.elim (oo y) fun q=>.inr (.inr ⟨i,c,hi,q⟩))⟩
 |some c=>
  refine aK e fun r1 e1 e=>lN e fun c' h0 e=>aX e fun hk e=> ?_
  cases e
  have f:=z.fst c' h0
  have kk:∀b,c.aU p b→c'.aU p b:=by
   cases c<;>cases c'<;>first|exact fun b o=>o|exact nomatch hk
  have q0:aE 0=p:=f.elim fun c0 a=>a.2.1
  have k0:∀b,c'.aU p b→c.aU p b:=f.elim fun c0 a=>by obtain⟨_,h⟩:=ho 0 c0 a.1;cases h;exact q0▸a.2.2
  have oo:∀b,O b→OO (fun b=>O b∧¬W1 p (some c) b) hs aE af b:=fun b q=>(Classical.em (c.aU p b)).elim (fun y=>.inr (.inr ⟨0,c',h0,q0▸kk b y⟩)) fun y=>.inl ⟨q,y⟩
  have cl:=z.inv.cell h0
  rw[q0]at cl
  refine⟨aF,c',rfl,k0,?_⟩
  cases r with
  |val d=>cases e1;exact⟨bk.mv (Mv.less oo) x,cl.mv (fun _ _ _ h=>h) (Mv.less oo)⟩
  |fresh e2=>
   cases e1
   exact x.imp fun q a=>⟨a.1,fun y o=>g1 y (a.2.1 y o),a.2.2.1.mv (fun _ _ _ h=>h) (Mv.less fun y q=>q.imp (oo y) id),(q0▸a.2.2.2.cell h0:cW w s2.heap _ p c').mv (fun _ _ _ h=>h) (Mv.less fun y q=>q.elim (fun q=>(oo y q).imp .inl id) fun q=>.inl (.inr q))⟩
  |loc i=>
   refine aX e1 fun K6 e1=>lN e1 fun e2 hi e1=> ?_
   cases e1
   have ne:i≠0:=fun q=>by rw[q]at K6;cases K6
   have m:Mv s2.heap s2.heap (OO (fun b=>O b∧¬W1 p (some c) b) hs aE af) (fun b=>O b∨e2.aU (aE i) b):=Mv.less fun y q=>q.elim (oo y) fun q=>.inr (.inr ⟨i,e2,hi,q⟩)
   exact⟨aE i,x.elim fun c h=>h.2,fun b o=>(z.own b ⟨i,e2,hi,o⟩).elim (fun q=>((z.inv.apart i e2 b hi o).2.2 0 c' (Ne.symm ne) h0 (q0▸kk b (D3 b q))).elim) (g1 b),(z.inv.cell hi).mv (fun _ _ _ h=>h) m,cl.mv (fun _ _ _ h=>h) m⟩
theorem ae2:∀{names:List Str} {k},(names.zip (range' k names.length)).lookup x=some i→∃j,i=k+j∧names[j]? =some x:=fun {names}=>by
 induction names with
 |nil=>exact fun h=>nomatch h
 |cons n ns ih=>
  intro k h
  rw[length_cons,List.range'_succ,zip_cons_cons,lookup_cons]at h
  by_cases q:x=n
  ·rw[q,beq_self_eq_true]at h;exact⟨0,(Option.some.inj h).symm,congrArg some q.symm⟩
  ·rw[beq_false_of_ne q]at h
   exact(ih h).elim fun j e=>⟨j+1,e.1.trans (by omega),e.2⟩
noncomputable abbrev n9(names:List Str):List (Str×Nat):=names.zip (range' 0 names.length)
theorem xJ{vs:List AV}{n i:Nat}(h:St.get (vs.map .val++replicate n .no) i=x)(hx:x≠.no):∃d,vs[i]? =some d∧x=.val d:=by
 unfold St.get at h
 rw[getD_eq_getElem?_getD]at h
 by_cases h1:i<(vs.map Slot.val).length
 ·rw[getElem?_append_left h1,getElem?_map]at h
  rw[length_map]at h1
  rw[getElem?_eq_getElem h1]at h ⊢
  exact⟨_,rfl,h.symm⟩
 ·rw[getElem?_append_right (le_of_not_lt h1),List.getElem?_replicate]at h
  by_cases h2:i-(vs.map Slot.val).length<n
  ·rw[if_pos h2]at h;exact absurd h.symm hx
  ·rw[if_neg h2]at h;exact absurd h.symm hx
theorem EB{ns i:Nat}{cin:Option AC}(h:St.get (start ns cin vs) i=.own c):i=0∧cin=some c:=by
 cases cin with
 |none=>exact(xJ h (fun q=>nomatch q)).elim fun d q=>nomatch q.2
 |some c0=>cases i with
  |zero=>exact⟨rfl,by cases h;rfl⟩
  |succ i=>exact(xJ h (fun q=>nomatch q)).elim fun d q=>nomatch q.2
theorem alK{ns i:Nat}{p:Addr×Addr}{cin:Option AC}{vs}(r:au w h O vals vs)(e:St.get (start ns cin vs) i=.val d):∃v,(hV p cin++vals)[i]? =some v∧RV w h O v d:=by
 cases cin with
 |none=>exact(xJ e (fun q=>nomatch q)).elim fun d' q=>bW.at r _ _ (Slot.sv q.2▸q.1)
 |some c0=>cases i with
  |zero=>exact nomatch e
  |succ i=>exact(xJ (i:=i) e (fun q=>nomatch q)).elim fun d' q=>bW.at r i _ (Slot.sv q.2▸q.1)
theorem Pk(h:jI cin+vs.length≤ns):(start ns cin vs).length=ns:=by
 unfold start
 rw[length_append,length_append,length_map,length_replicate]
 cases cin with
 |none=>exact(add_assoc ..).symm.trans (add_sub_cancel' h)
 |some c=>exact(add_assoc ..).symm.trans (add_sub_cancel' h)
theorem Rm.deeper{env}(R:Rm A (lv+1)):Rm (A.deeper env) lv:=⟨R.hd,MD R.dp (add_le_add_left (by decide) A.depth),MF R.un (add_le_add_left (by decide) A.units)⟩
section
variable {fd:FuncData} {env:Env}
theorem NC:(hV p cin).length=jI cin:=by cases cin<;>rfl
structure Qn (w:World) (fd:FuncData) (d:FD) (names:List Str) (O:Addr→Prop) (s:Shared) (cin:Option AC) (p:Addr×Addr) (vals:List Value) (vZ:List AV) (va:List Value):Prop where
 b:BindsTo s fd ⟨hV p cin++vals,[]⟩ ((names.take d.np).zip (hV p cin++va))
 r:au w s.heap O va vZ
 n:jI cin+vZ.length=d.np
theorem aad(X:jR w aa f fd body d names)(U:jo aa O s)(a:au w s.heap O vals vs)(e:fill d (jI cin) vs=some vZ):∃va,Qn w fd d names O s cin p vals vZ va:=by
 refine aX e fun hl e=>aS hl fun jC dE=> ?_
 cases e
 have jC:=le_of_ble_eq_true jC
 have dE:=le_of_ble_eq_true dE
 have xX:(names.take d.np).length=d.np:=by rw[length_take,X.len];exact min_eq_left X.np
 have Cv:(hV p cin++vals).length=vs.length+jI cin:=by rw[length_append,NC,a.length,add_comm]
 have qV:∃ds,(∃Tp o n,fd.defaults=.none∧ds=[]∨fd.defaults=.ref Tp∧s.heap.get? Tp=some o∧o.data=.seq (toArray ds) n)∧au w s.heap O ds d.dflt:=X.IB.elim (fun h=>⟨[],⟨0,{cls:=.none,data:=.seq #[]},0,.inl ⟨h.1,rfl⟩⟩,h.2▸rfl⟩) fun h=>h.elim fun Tp h=>h.elim fun o h=>h.elim fun n h=>h.elim fun ds h=>
  ⟨ds,⟨Tp,o,n,.inr ⟨h.1,U.stat _ _ h.2.1,h.2.2.1⟩⟩,bW.mv ⟨fun b o e _=>U.stat b o e,fun b e _ q=>isSome_none e (U.old b q)⟩ h.2.2.2⟩
 refine qV.elim fun ds h=>h.1.elim fun Tp hb=>hb.elim fun o hb=>hb.elim fun nn hb=> ?_
 have xQ:=h.2.length
 have b:=Ul (vals:=hV p cin++vals) X.plain hb (by rw[Cv,xX];exact jC) (by rw[Cv,xX,xQ];exact dE) (by rw[xX,xQ];exact X.Iy)
 rw[append_assoc]at b
 refine⟨_,b,a.app ?_,?_⟩
 ·rw[xX,Cv,xQ]
  exact h.2.drop _
 ·rw[length_append,length_drop];omega
structure gz (fd:FuncData) (d:FD) (names:List Str) (s s1:Shared) (cin:Option AC) (p:Addr×Addr) (va:List Value) (env:Env):Prop where
 e:env=newEnv fd.scope s.heap.objs.size fd.globals (cellsFrom (s.heap.objs.size+1) fd.scope.names []) env.qual env.func env.code none fd.builtins
 x:InCallC s env.locals (bindL env.kindOf ((names.take d.np).zip (hV p cin++va)) fun _=>none) env.cells (bindC env.kindOf ((names.take d.np).zip (hV p cin++va)) fun _=>none) s1
theorem gz.sc(N:gz fd d names s s1 cin p va env):env.scope=fd.scope:=by rw[N.e];rfl
theorem gz.loc(N:gz fd d names s s1 cin p va env):env.locals=s.heap.objs.size:=by rw[N.e];rfl
theorem gz.kind(N:gz fd d names s s1 cin p va env)(y):env.kindOf y=fd.scope.names.lookup y:=by unfold Env.kindOf;rw[N.sc]
theorem gz.cell(N:gz fd d names s s1 cin p va env)(X:jR w aa f fd body d names)(hy:y∈names)(q:env.kindOf y≠some .local):∃c,env.cells.lookup y=some c:=
 (X.kinds y hy).elim (fun h=>absurd ((N.kind y).trans h) q) fun h=>isSome_iff_exists.mp (by rw[N.e];exact h.2 _)
theorem AU(X:jR w aa f fd body d names)(hl:(hV p cin++va).length=d.np){i:Nat}(hy:names[i]? =some y):(((names.take d.np).zip (hV p cin++va)).lookup y).or none=(hV p cin++va)[i]? :=by
 rw[Option.or_none]
 by_cases hi:i<d.np
 ·exact uB (X.nodup.sublist (take_sublist ..)) ((List.getElem?_take_of_lt hi).trans hy)
 ·rw[getElem?_eq_none (hl▸le_of_not_lt hi)]
  exact Mx fun q=>(List.mem_take_iff_getElem.mp q).elim fun j hj=>hj.elim fun hj hj'=>DO X.nodup (i:=j) (getElem?_eq_getElem _) hy (fun e=>hi (e▸(Nat.lt_min.mp hj).1)) hj'
theorem Lm{i:Nat}(h:names[i]? =some x):(nS env names)[i]? =some (if env.kindOf x=some .local then .loc env.locals x else .jY ((env.cells.lookup x).getD 0)):=by
 unfold nS
 rw[getElem?_map,h];rfl
theorem gz.h1(N:gz fd d names s s1 cin p va env)(X:jR w aa f fd body d names)(hl:(hV p cin++va).length=d.np)(i:Nat)(k:aI)(hk:(nS env names)[i]? =some k):eA s1.heap k (hV p cin++va)[i]? :=by
 have hi:i<names.length:=by have:=(List.getElem?_eq_some_iff.mp hk).1;unfold nS at this;rwa [length_map]at this
 have hy:=getElem?_eq_getElem hi
 rw[Lm hy]at hk
 have nd:=X.nodup.sublist (take_sublist d.np names)
 by_cases j8:env.kindOf names[i]=some .local
 ·rw[if_pos j8]at hk
  cases hk
  exact⟨_,N.x.toInCall.ns,(He (k:=fun x=>env.kindOf x=some .local) (B:=bindL env.kindOf) (fun _=>rfl) (fun _ _ _ _=>rfl) j8 nd).trans (AU X hl hy)⟩
 ·rw[if_neg j8]at hk
  refine(N.cell X (mem_of_getElem? hy) j8).elim fun c hc=> ?_
  rw[hc]at hk
  cases hk
  have:=N.x.cell _ c hc
  rwa [He (k:=fun x=>¬env.kindOf x=some .local) (B:=bindC env.kindOf) (fun _=>rfl) (fun n v r m=>by show bindC _ r _=_;rw[ite_not]) j8 nd,AU X hl hy]at this
theorem wQ{h:Heap}(hb:h.objs.size≤b):h.get? b=none:=none_of fun o q=>absurd (Heap.lt_size q) (Nat.not_lt.mpr hb)
theorem gz.h2(N:gz fd d names s s1 cin p va env)(X:jR w aa f fd body d names)(b)(q:HO (nS env names) b):s.heap.get? b=none:=q.elim fun k q=>(mem_map.mp q.1).elim fun y hy=>by
 rw[←q.2,←hy.2]
 by_cases j8:env.kindOf y=some .local
 ·rw[if_pos j8];exact wQ (le_of_eq N.loc.symm)
 ·rw[if_neg j8]
  refine(N.cell X hy.1 j8).elim fun c hc=> ?_
  rw[hc]
  exact wQ (le_of_lt (N.loc▸N.x.above y c (mem_of_lookup hc)))
theorem gz.nd(N:gz fd d names s s1 cin p va env)(X:jR w aa f fd body d names):(nS env names).Nodup:=agv X.nodup fun y hy z hz q=>by
 by_cases l1:env.kindOf y=some .local
 ·by_cases l2:env.kindOf z=some .local
  ·rw[if_pos l1,if_pos l2]at q;exact by cases q;rfl
  ·rw[if_pos l1,if_neg l2]at q;cases q
 ·by_cases l2:env.kindOf z=some .local
  ·rw[if_neg l1,if_pos l2]at q;cases q
  ·rw[if_neg l1,if_neg l2]at q
   refine(N.cell X hy l1).elim fun c1 e1=>(N.cell X hz l2).elim fun c2 e2=> ?_
   rw[e1,e2]at q
   exact name_of_addr N.x.apart (mem_of_lookup e1) ((show c1=c2 from congrArg aI.addr q)▸mem_of_lookup e2)
theorem gz.ok(N:gz fd d names s s1 cin p va env)(X:jR w aa f fd body d names):ef env fd.scope (n9 names) (nS env names):=
 ⟨N.sc,X.kind,by rw[N.e];exact X.glob,by rw[N.e];exact X.Hr,fun y i hy=>(ae2 hy).elim fun j e=>by
  rw[e.1,zero_add,Lm e.2]
  refine(X.kinds y (mem_of_getElem? e.2)).imp (fun h=>⟨h,by rw[if_pos ((N.kind y).trans h)]⟩) fun h=> ?_
  have j8:¬env.kindOf y=some .local:=by rw[N.kind,h.1];exact fun q=>nomatch q
  exact(N.cell X (mem_of_getElem? e.2) j8).elim fun c hc=>⟨h.1,c,hc,by rw[if_neg j8,hc];rfl⟩⟩
end
theorem aae{f:Addr}{fd:FuncData}{body:List Stmt}{d:FD}{names:List Str}{P:qb}(X:jR w aa f fd body d names)(lim:aa.NoLimit)(B:iz w aa P.T S lv F fd.scope (n9 names) d.ns d.body body)
  {cin:Option AC} {vs:List AV} {r:Res} {cout:Option AC} (e:run P F S d cin vs=some (r,cout)) {O} {s:Shared} {vals:List Value} {p:Addr×Addr} (R:Rm A (lv+1)) (U:jo aa O s)
  (a:au w s.heap O vals vs) (c:AZ w O s.heap p cin):codeAny (ah w) A (.call (.ref f) ⟨hV p cin++vals,[]⟩) (back (CQ w O s p cin cout r)) s:=by
 refine aK e fun vZ hf e=>aN e fun fl af hex e=>X.obj.elim fun fo ho=>(aad (p:=p) X U a hf).elim fun va z=> ?_
 have hl:(hV p cin++va).length=d.np:=by rw[length_append,NC,z.r.length];exact z.n
 refine codeAny_call_function (afh R.dp) (U.stat _ _ ho.1) ho.2 X.co X.gen X.body (X.code.keeps U.stat) (z.b _ _ _ _ ?_)
 rw[X.ed]
 refine wpAny_newFunctionEnv_cells X.kind (fun x hx=>(X.kinds x.1 (List.mem_of_mem_take (List.of_mem_zip hx).1)).imp id fun q=>⟨q.1,q.2 _⟩) fun env he s1 x=>⟨(lim.keeps U.stat).keeps x.toInCall.keep,codeAny_func ?_⟩
 have N:gz fd d names s s1 cin p va env:=⟨by rw[he];rfl,x⟩
 have I:=alH (cin:=cin) (p:=p) U x.done ((Pk (z.n▸X.np)).trans (by unfold nS;rw[length_map,X.len])) (N.nd X) (N.h1 X hl) (N.h2 X) c (fun i dd q=>alK z.r q) (fun i cc q=>EB q) (fun c h=>by rw[h];rfl)
 refine wpAny_mono (B ⟨R.deeper,N.ok X,I,Pk (z.n▸X.np)⟩ hex) (fun g s2 z=>z.elim fun aE z=> ?_) fun _ _ q=>q.elim
 have zr:=z.r
 cases fl with
 |next=>
  obtain rfl:g=.next:=zr
  exact IQ (r:=.val .none) x.done (N.h2 X) (fun i cc q=>EB q) z.sp rfl e
 |ret r1=>
  refine zr.elim fun v q=> ?_
  obtain rfl:=q.1
  exact IQ x.done (N.h2 X) (fun i cc q=>EB q) z.sp q.2 e
end
end
section
section
variable {S:cf} {lv F:Nat} {K:Frag}
theorem Rm.ams(R:Rm A (lv+1)):Rm (A.under (.builtin "type.__call__" ⟨.ref C::vals,[]⟩)) lv:=
 ⟨R.hd,by rw[depth_under_kw];exact MD R.dp (add_le_add_left (by decide) _),by
  have e:(A.under (.builtin "type.__call__" ⟨.ref C::vals,[]⟩)).units≤A.units+8:=add_le_add_left (le_trans (le_of_eq (show Code.cUnits (.builtin "type.__call__" ⟨.ref C::vals,[]⟩)=1 by kernel_rfl)) (by decide)) _
  exact MF R.un (le_trans e (add_le_add_left (by decide) _))⟩
theorem Np{h:Heap}(C):((h.push emptyDict).push (instObj C h.objs.size)).get? (h.objs.size+1)=some (instObj C h.objs.size):=by heap_get
theorem Nn{h:Heap}(C):((h.push emptyDict).push (instObj C h.objs.size)).get? h.objs.size=some emptyDict:=by heap_get
theorem agp{O}{C}{h:Heap}{g d t os}(U:jo aa O ⟨h,g,d,t,os⟩):jo aa (fun b=>O b∨(b=h.objs.size+1∨b=h.objs.size)) ⟨(h.push emptyDict).push (instObj C h.objs.size),g,d,t,os⟩ where
 stat:=fun b o q=>Heap.get?_push_of_some _ (Heap.get?_push_of_some _ (U.stat b o q))
 bB:=fun b q=>q.elim (fun q=>(isSome_iff_exists.mp (U.bB b q)).elim fun o z=>isSome_of_eq_some (Heap.get?_push_of_some _ (Heap.get?_push_of_some _ z))) fun q=>q.elim
  (fun q=>q▸isSome_of_eq_some (Np C)) fun q=>by subst q;exact isSome_of_eq_some (Nn C)
 old:=fun b q=>q.elim (U.old b) fun q=>none_of fun o z=>ez (U.stat b o z) (q.elim (fun q=>q▸wQ (le_succ _)) fun q=>q▸dU)
theorem Pc{h:Heap}(sm:(h.get? sysModules).isSome=true):(h.objs.size==sysModules)=false:=beq_false_of_ne fun q=>isSome_none sm (q▸dU)
theorem jo.sm(U:jo aa O s)(sm:(aa.get? sysModules).isSome=true):(s.heap.get? sysModules).isSome=true:=(isSome_iff_exists.mp sm).elim fun o z=>isSome_of_eq_some (U.stat _ o z)
theorem afM{C fI:Addr}{c:AC}{vs:List AV}(X:K.In aa)(sm:(aa.get? sysModules).isSome=true)(hm:makesIn K C=true)(hi:findIn K (.ref C) "__init__"=some (some (.ref fI)))(hf:typeIn K (.ref fI)=some (.type "function"))
  (B:pZ w aa S lv) (e:S fI (some (.inst C [])) vs=some (.val .none,some c)) {A:Around} {s:Shared} {vals:List Value} {p0:Addr×Addr} (R:Rm A (lv+1)) (U:jo aa O s) (a:au w s.heap O vals vs):
  codeAny (ah w) A (.call (.ref C) ⟨vals,[]⟩) (back (CQ w O s p0 none none (.fresh c))) s:=by
 obtain⟨h,g,d,t,os⟩:=s
 have Xs:K.In h:=X.keeps U.stat
 refine make_core (makes_of Xs hm) (looks_findIn Xs hi) (fun self=>bind_fn Xs self hf) (.inl rfl) ?_
 have hb:∀b,b=h.objs.size+1∨b=h.objs.size→h.get? b=none:=fun b q=>q.elim (fun q=>q▸wQ (le_succ _)) fun q=>q▸dU
 have k:∀b o,h.get? b=some o→((h.push emptyDict).push (instObj C h.objs.size)).get? b=some o:=fun b o e=>Heap.get?_push_of_some _ (Heap.get?_push_of_some _ e)
 refine codeAny_mono (B (p:=(h.objs.size+1,h.objs.size)) e R.ams (agp U) (bW.mv ⟨fun b o q _=>k b o q,fun b q n z=>z.elim n fun z=>isSome_none q (hb b z)⟩ a) ⟨⟨[],Np C,⟨⟨by decide,Pc (U.sm sm)⟩,0,Nn C⟩,rfl⟩,fun b q=>.inr q⟩) fun r s' z=> ?_
 cases r with
 |error e=>exact z.elim
 |ok f=>cases f with
  |ret v=>
   have z:QM w _ _ _ _ _ _ _ _:=z
   refine z.c.elim fun c' q=> ?_
   cases q.1
   refine⟨q.2.2.1,z.k.elim fun h' y=>y.elim fun tk y=>⟨h',tk,y.1,fun b o q=>y.2.1 b o (k b o q) fun z=>ez q (hb b z)⟩,(h.objs.size+1,h.objs.size),rfl,fun b o=>hb b (q.2.1 b o),q.2.2.2.mv (fun _ _ _ q=>q) (Mv.less fun b y=>y.imp id (q.2.1 b))⟩
  |_=>exact z.elim
def A1(w:World)(aa:Heap)(P:qb)(F:Nat):Prop:=∀f d,P.fn f=some d→∃fd body names,jR w aa f fd body d names∧∀S lv,jl w aa S lv→iz w aa P.T S lv F fd.scope (n9 names) d.ns d.body body
def we(K:Frag)(P:qb):Prop:=∀C i,P.uy C=some i→makesIn K C=true∧findIn K (.ref C) "__init__"=some (some (.ref i))∧typeIn K (.ref i)=some (.type "function")
theorem ag5(X:K.In aa)(sm:(aa.get? sysModules).isSome=true)(lim:aa.NoLimit)(hF:A1 w aa P F)(hI:we K P)(B:pZ w aa (dW P F n) n):pZ w aa (dW P F (n+1)) (n+1):=by
 intro f cin vs r cout e A O s vals p R U c
 have e:casesOn (motive:=fun _=>Option (Res×Option AC)) (P.fn f) (aw (P.uy f) fun i=>aJ cin.isNone (aw (dW P F n i (some (.inst f [])) vs) (Mb f))) (fun d=>aJ (P.T.chg f==cin.isSome) (run P F (dW P F n) d cin vs))=some (r,cout):=e
 cases hd:P.fn f with
 |some d=>
  rw[hd]at e
  exact aX e fun _ e=>(hF f d hd).elim fun fd h=>h.elim fun body h=>h.elim fun names h=>aae h.1 lim (h.2 _ _ (Ip B)) e R U c
 |none=>
  rw[hd]at e
  refine aK e fun i hi e=>aX e fun hn e=>aK e fun q h4 e=> ?_
  obtain rfl:=isNone_iff_eq_none.mp hn
  obtain⟨q1,q2⟩:=q
  cases q1 with
  |val d=>
   refine aX e fun h0 e=>aK e fun c' h5 e=> ?_
   cases e
   obtain rfl:q2=some c':=h5
   revert h4
   exact AV.none.elim (motive_1:=fun d=>dW P F n i (some (.inst f [])) vs=some (.val d,some c')→_) d (eq_of_beq_eq_true h0) fun h4 _=>afM X sm (hI f i hi).1 (hI f i hi).2.1 (hI f i hi).2.2 B h4 R U c
  |_=>exact ba e
theorem ag4(X:K.In aa)(sm:(aa.get? sysModules).isSome=true)(lim:aa.NoLimit)(hF:A1 w aa P F)(hI:we K P)(n:Nat):pZ w aa (dW P F n) n:=by
 induction n with
 |zero=>intro f cin vs r cout e;cases e
 |succ n B=>exact ag5 X sm lim hF hI B
end
end
section
section
variable {T:Tab} {S:cf} {lv:Nat} {sc:Scope} {nm:List (Str×Nat)} {n:Nat} {K:Frag}
theorem aaG(X:K.In s.heap)
  (e:findCls K (.type "int") (.type "type") (Str.ofString "from_bytes")=some (.get (.builtin "classmethod_descriptor.__get__") (.builtin "int.from_bytes") .none (.type "int")))
  (h:Q (.ref s.heap.objs.size,[]) {s with heap:=s.heap.push KFB.bound,toks:=s.toks+1}):wpAny (ah w) A (getMethod (.type "int") (Str.ofString "from_bytes") pl) Q aG s:=by
 have abT:opaqueClassAbove (.type "int")=pure none:=by unfold opaqueClassAbove;dsimp only;rw[show Manifest.isStub "int"=false by decide+kernel];rfl
 have ht:typeOf (.type "int")=pure (.type "type"):=by first|rfl|kernel_rfl
 have L0:Looks (ah w) s.heap (typeOf (.type "int")) (.type "type"):=Looks.of_pure ht
 have hg:findIn K (.type "type") "__getattribute__"=some (some (.builtin "type.__getattribute__")):=type_tga
 unfold getMethod specialOf
 refine wpAny_bind (wpAny_bind (L0.here ((looks_findIn X hg).here ?_)))
 dsimp only
 rw[if_pos canon_tga]
 refine wpAny_bind (wpAny_mono (Q:=fun v=>Q (v,[])) (E:=aG) ?_ (fun _ _ z=>wpAny_pure z) fun _ _ z=>z)
 have LO:Looks (ah w) s.heap (opaqueClassAbove (.type "int")) none:=Looks.of_pure abT
 refine cls_open X LO L0 hg (looks_hook X (r:=none) (by rfl)) (by show subIn K _ _=_;rfl) e ?_
 show wpAny _ _ (holding [.builtin "int.from_bytes"] (call (.builtin "classmethod_descriptor.__get__") [.builtin "int.from_bytes",.none,.type "int"])>>=fun v=>ret v) _ _ _
 exact wpAny_bind (wpAny_holding (wpAny_call_entry KFB.slot_get KFB.type_fb KFB.entry_get (KFB.run_get ⟨_,rfl,wpAny_pure (wpAny_pure h)⟩) (KFB.args_get _ _ _)))
theorem amw(l:List UInt8):∀a:Int,(l.map fun c=>((c.toNat:Nat):Int)).foldl (fun a k=>a*256+k) a=qk l a:=by
 induction l with
 |nil=>exact fun _=>rfl
 |cons c r ih=>exact fun a=>ih _
theorem aaH{env:Env}(hp:args.all notStar=true)(iI:args≠[])(h:wpAny (ah w) A (spliced (backTo pos (starEach args env))) (fun vs s1=>Q ⟨vs,[]⟩ s1) aG s0):wpAny (ah w) A (evalArgs f true (backTo pos (starEach args env)) []) Q aG s0:=by
 cases args with
 |nil=>exact absurd rfl iI
 |cons a ar=>
  refine aS hp fun hp _=> ?_
  rw[mZ hp]at h ⊢
  exact evalArgs_plain h
theorem aaF{A:Around}{ae:Addr→Prop}{hs:List aI}{ps:Nat→Addr×Addr}{st af}(e:aW .fromBytes ds=some d)(r:ei w s1.heap (OO ae hs ps af) vals ds)(t:EP w aa ae hs ps st af s s1)(hx:s1.heap.get? a=some KFB.bound):
  wpAny (ah w) A (call (.ref a) vals) (QE w aa ae hs ps st af s (lL d)) aG s1:=by
 revert r
 refine vV e fun x y e r=> ?_
 cases r with|mk r1 r=>
 cases r with|mk r2 r=>
 cases r
 refine vz e r1 fun b t1 e _=> ?_
 refine r8 e r2 fun z t2 e _=> ?_
 refine aX e fun hc e=>aS hc fun h8 h9=> ?_
 cases e
 obtain rfl:=eq_of_beq h8
 refine KFB.call_of hx (fun z=>KFB.tree_big (by simpa using of_decide_eq_true h9) z) ⟨t.kp Kp.tok,?_⟩
 have:KFB.value (KBw.bInts b.toArray)=qk b 0:=by
  rw[←amw b 0];unfold KFB.value KBw.bInts;simp
 rw[this]
 exact kG.mk _
theorem akk(U:jT aa K T)(hk:sc.names.lookup (Str.ofString "int")=some .globalImplicit)(hg:sO aa "int" (.type "int"))
  (hfc:findCls K (.type "int") (.type "type") (Str.ofString "from_bytes")=some (.get (.builtin "classmethod_descriptor.__get__") (.builtin "int.from_bytes") .none (.type "int")))
  (uh:(apos.endLine==pos.line)=true) (hp:args.all notStar=true) (nL:args.length<30) (iI:args≠[]) (hl:oM w aa T S lv sc nm n l args):
  SE w aa T S lv sc nm n (.blt .fromBytes l) (.Call (.Attribute (.Name "int" p) (Str.ofString "from_bytes") apos) args [] pos):=by
 intro A env ae hs ps st s r af X ao
 refine aN ao fun rs aj h1 e=>aK e fun ds h2 e=>aK e fun d h3 e=> ?_
 refine bY e ?_
 have k:Kp s {s with heap:=s.heap.push KFB.bound,toks:=s.toks+1}:=Kp.push
 refine DG rfl uh hp nL (yF X.K X.I.stat hk (by decide) (.inr hg) (aaG (U.X.keeps X.I.stat) hfc (KFB.callWith_fields (AF hp).1 (aaH hp iI (wm (hl pos ⟨X.R,X.K,X.I.kp k,X.L⟩ h1) fun vals s1 z1=> ?_)))))
 have hx:s1.heap.get? s.heap.objs.size=some KFB.bound:=z1.e.aF.keep _ _ (show(s.heap.push KFB.bound).get? _=_ from Heap.get?_push_size _ rfl) fun q=>isSome_none (X.I.bB _ (.inr (.inr q))) dU
 exact⟨hx,aaF h3 (z1.r.look z1.e.inv h2) ((X.refl.kp k).trans z1.e) hx⟩
end
end
section
section
variable {T:Tab} {S:cf} {lv:Nat} {sc:Scope} {nm:List (Str×Nat)} {n:Nat} {K:Frag}
noncomputable def tA:BI→Option (Str×String)
 |.get=>some ("get","dict.get")
 |.join=>some ("join","bytes.join")
 |_=>none
theorem Hj{C:BI→Str→String→Prop}{b:BI}{x:Str}{id:String}(hb:tA b=some (x,id))(k1:C .join "join" "bytes.join")(k2:C .get "get" "dict.get"):C b x id:=by
 cases b with
 |join=>exact bY (C:=C .join) hb k1
 |get=>exact bY (C:=C .get) hb k2
 |_=>exact ba hb
theorem alc:PySem.Slot "bytes" "join" "bytes.join":=
 .of (owner:="bytes") (n:="join") (by rw[typeLookup_type,builtinLookup_eq_fast];kernel_rfl) (by decide+kernel) (by decide+kernel) (by decide+kernel)
  (by first|exact .inl (by decide+kernel)|exact .inr (by decide+kernel)) (by rw[isSubtype_type];kernel_rfl)
theorem amr:typeOf (.builtin "bytes.join")=pure (.type "method_descriptor"):=by show builtinType _=_;rw[builtinType_eq_fast];kernel_rfl
theorem ahJ:PlainAttrs "bytes":=FB.plainAttrs_bytes
theorem aaX{b:BI}{x:Str}{id:String}{O:Addr→Prop}{A:Around}{d:AV}{pl:Sem Bool}{Q:Value×List Value→Shared→Prop}(hb:tA b=some (x,id))(jb:wV b d=true)(r:RC w s.heap O v d)(h:Q (.builtin id,[v]) s):wpAny (ah w) A (getMethod v x pl) Q aG s:=by
 revert jb h
 refine Hj (C:=fun b x id=>wV b d=true→Q (.builtin id,[v]) s→wpAny (ah w) A (getMethod v x pl) Q aG s) hb (fun jb h=> ?_) fun jb h=> ?_
 ·exact AV.bytes.elim (motive_1:=fun d=>RC w s.heap O v d→_) d (eq_of_beq_eq_true jb) (fun l r=>by cases r with|mk t n=>exact getMethod_builtin (T:="bytes") (typeIs_bytes _ _ _) ahJ alc amr (fun b q=>nomatch q) h) r
 ·exact AV.aq.elim (motive_1:=fun d=>RC w s.heap O v d→_) d (eq_of_beq_eq_true jb) (fun l r=>by cases r with|mk n x r=>exact x.2.elim fun k e=>getMethod_builtin (T:="dict") ⟨_,e,rfl⟩ PySem.F.plainAttrs_dict PySem.F.slot_dict_get PySem.F.type_dict_get (fun b q=>by cases q;exact⟨_,e,rfl⟩) h) r
theorem Nu(x:RC w h O v d)(c:lD d=false):RV w h O v d:=by
 cases d with
 |lst=>cases c
 |aq=>cases c
 |inst=>cases c
 |_=>exact x
theorem agO(c:lD d=false):lL d=.val d:=by
 cases d with
 |lst=>cases c
 |aq=>cases c
 |inst=>cases c
 |_=>rfl
theorem UC{b:BI}{x:Str}{id:String}{O:Addr→Prop}{A:Around}{vs:List Value}{d0 d:AV}{ds:List AV}(hb:tA b=some (x,id))(e:aW b (d0::ds)=some d)(p:RC w s.heap O v d0)(q:ei w s.heap O vs ds)(hu:A.units+40<cLine):
  wpAny (ah w) A (call (.builtin id) (v::vs)) (PO w O s d) aG s:=by
 revert e
 refine Hj (C:=fun b x id=>aW b (d0::ds)=some d→wpAny (ah w) A (call (.builtin id) (v::vs)) (PO w O s d) aG s) hb (fun e=> ?_) fun e=> ?_
 ·cases ds with
  |nil=>exact ba e
  |cons y ds=>cases ds with
   |cons=>exact ba e
   |nil=>
    cases q with|mk r1 q=>
    cases q
    exact vz (C:=fun v=>wpAny (ah w) A (call _ [v,_]) (PO w O s d) aG s) e p fun b t e _=>acC (b:=b.toArray) e r1 hu
 ·cases ds with
  |nil=>exact ba e
  |cons y ds=>cases ds with
   |nil=>exact ba e
   |cons z ds=>cases ds with
    |cons=>exact ba e
    |nil=>
     cases q with|mk r1 q=>
     cases q with|mk r2 q=>
     cases q
     revert p
     refine aaQ (C:=fun d0=>RC w s.heap O v d0→_) e fun l e p=>aX e fun hc e=>eE hc fun g1 g2 g3=> ?_
     cases e
     rw[not_eq_true']at g2 g3
     exact wm (aaV g1 p (Nu r1 (IF g1)) (Nu r2 g3) (by omega)) fun u s3 z3=>by unfold PO;rw[agO g2];exact z3
theorem aj6{b:BI}{x:Str}{id:String}{o:ME}(hb:tA b=some (x,id))(ho:SE w aa T S lv sc nm n o eo)(hl:oM w aa T S lv sc nm n l args)
  (hn:oc eo=true) (uh:(apos.endLine==pos.line)=true) (hp:args.all notStar=true) (nL:args.length<30):
  SE w aa T S lv sc nm n (.bm b o l) (.Call (.Attribute eo x apos) args [] pos):=by
 intro A env ae hs ps st s r af X ao
 refine aN ao fun r0 aj e1 e=>aK e fun d0 e2 e=>aX e fun jb e=>aN e fun rs bU e3 e=>aK e fun d1 h4 e=>aK e fun ds h5 e=>aK e fun d h3 e=> ?_
 refine bY e ?_
 exact DG hn uh hp nL (wm (ho.c X e1) fun v s1 z1=>aaX hb jb (z1.r.look z1.e.inv e2) (tF (fun _=>True) hp (Mk fun _ q=>nomatch q) (wm (hl pos (X.next z1.e) e3) fun vals s2 z2=>⟨trivial,
  have t:=z1.e.trans z2.e
  wm (UC hb h3 ((z1.r.move z2.e).look t.inv h4) (z2.r.look t.inv h5) (by have:=X.R.un;omega)) fun z s3 z3=>rJ t z3⟩)))
structure QD (w:World) (aa:Heap) (ae:Addr→Prop) (hs:List aI) (ps:Nat→Addr×Addr) (st af:St) (s:Shared) (acc l:List (AV×AV)) (aE:List (Value×Value)) (s':Shared):Prop where
 e:EP w aa ae hs ps st af s s'
 len:acc.length≤1001→l.length≤1001
 c:∃az,Carries (intKind ey w) aE az∧∀yA qG,RK w s'.heap (OO ae hs ps af) (hU w).key acc qG yA→∃cA,RK w s'.heap (OO ae hs ps af) (hU w).key l cA (merged yA az)
def lA(w:World)(aa:Heap)(T:Tab)(S:cf)(lv:Nat)(sc:Scope)(nm:List (Str×Nat))(n:Nat)(me:aR)(ks:List (Option Expr))(vs:List Expr):Prop:=
 ∀{A} {env} {ae} {hs} {ps} {st} {s} {acc l} {af} (pos),IS w aa lv sc nm n A env ae hs ps st s→
  tK T S me acc st=some (l,af)→wpAny (ah w) A (evalPairs (pairTrees ks vs env pos)) (QD w aa ae hs ps st af s acc l) aG s
theorem akA:lA w aa T S lv sc nm n .nil [] []:=by
 intro A env ae hs ps st s acc l af pos X ao
 refine bY ao ?_
 exact evalPairs_nil ⟨X.refl,id,[],trivial,fun yA qG h=>⟨qG,h⟩⟩
theorem akz(hk:SE w aa T S lv sc nm n k ek)(hv:SE w aa T S lv sc nm n v YK)(hr:lA w aa T S lv sc nm n r ks vs):
  lA w aa T S lv sc nm n (.cons k (.cons v r)) (some ek::ks) (YK::vs):=by
 intro A env ae hs ps st s acc l af pos X ao
 refine aN ao fun i aj e1 e=>aN e fun y bU e2 e=>aX e fun hd e=>xd hd fun k1 k2 k3 k4=> ?_
 refine evalPairs_cons (wm (hk.i X e1) fun u s1 z1=>wpAny_bind (wm (hv.f (X.next z1.e) e2) fun x s2 z2=>wpAny_bind (wpAny_standAt (wpAny_pure ?_))))
 have t:=z1.e.trans z2.e
 refine wm (hr pos (X.next t) e) fun aE s3 z=>z.c.elim fun az c=> ?_
 have r1:=z1.r
 cases r1 with|mk tu=>
 exact⟨t.trans z.e,fun _=>z.len (le_trans (BF ..) (by omega)),(i,x)::az,⟨(hU w).is (h:=s.heap) (O:=fun _=>False) (k:=i) (kG.mk tu),rfl,c.1⟩,fun yA qG h=>
  (OG (hU w) (k:=i) (u:=.int i tu) (kG.mk tu) (bk.mv z.e.mv z2.r) h (Ep (hU w) h k3)).elim fun YI h1=>c.2 _ YI h1⟩
theorem Inv.sm{ae}{hs}{ps}{st}{s:Shared}(U:jT aa K T)(I:Inv w aa ae hs ps st s):(s.heap.objs.size==sysModules)=false:=Pc ((isSome_iff_exists.mp U.sm).elim fun o z=>isSome_of_eq_some (I.stat _ o z))
theorem akj(U:jT aa K T):SE w aa T S lv sc nm n (.aq .nil) (.Dict [] [] pos):=by
 intro A env ae hs ps st s r af X ao
 refine bY (show some (Res.fresh (.aq []),st)=some (r,af)from ao) ?_
 exact wpAny_Dict_empty (rJ (d:=.aq []) X.refl ⟨Kp.og,(s.heap.objs.size,0),rfl,fun b (o:b=_)=>o▸dU,[],⟨⟨by decide,X.I.sm U⟩,0,Heap.get?_push_size _ rfl⟩,rfl⟩)
theorem acp(k:Int)(u:Value)(e:(hU w).knd.is k u=true)(_:∃u',RV w h O u' ((hU w).key k)):RV w h O u ((hU w).key k):=by
 obtain⟨t,rfl⟩:=Value.isInt_shape (show Value.isInt k u=true from e)
 exact kG.mk t
theorem XI{ae:Addr→Prop}{hs:List aI}{ps:Nat→Addr×Addr}{st af:St}{az}{tk:Nat}(I:Inv w aa ae hs ps st s)(sm:(s.heap.objs.size==sysModules)=false)
  (z:QD w aa (fun b=>ae b∨b=s.heap.objs.size) hs ps st af {s with heap:=s.heap.push emptyDict} [] l vs1 s1) (rk:∃cA,RK w s1.heap (OO (fun b=>ae b∨b=s.heap.objs.size) hs ps af) (hU w).key l cA az) (hd:h'.DictOf (intKind ey w) s.heap.objs.size az) (di:Heap.SameBut s.heap.objs.size s1.heap h'):
  QE w aa ae hs ps st af s (.fresh (.aq l)) (.ref s.heap.objs.size) {s1 with heap:=h',toks:=tk}:=by
 have p1:cy (fun b=>b=s.heap.objs.size) s1 {s1 with heap:=h',toks:=tk}:=⟨h',_,rfl,fun b o e q=>(di.2 b q).trans e,fun b e=>if q:b=s.heap.objs.size then(by obtain⟨o,_,_,e',_⟩:=hd;exact(ez e' (q▸e)).elim)else(di.2 b q).symm.trans e⟩
 have J:=z.e.inv.chg p1 fun b q=>⟨.inr q,fun y=>isSome_none (I.bB _ (.inr (.inl y))) (q▸dU)⟩
 refine rk.elim fun cA rk=>(Kx (hU w) acp hd (RK.mv ⟨fun b o e q=>(di.2 b fun z=>q (.inl (.inr z))).trans e,fun _ _ q=>q⟩ rk) (by have:=z.len (by decide);omega) sm).elim fun nA d=> ?_
 have k0:Kp s {s with heap:=s.heap.push emptyDict}:=Kp.og
 exact⟨⟨J.less fun b q=>.inl q,((k0.aF (W:=Own ps st)).trans z.e.aF fun b q=>.inl q).trans p1 fun b q=>.inr (q▸dU),z.e.bc⟩,(s.heap.objs.size,0),rfl,fun b (o:b=_)=>o▸dU,⟨nA,d.1,iy.mv (Mv.less fun b q=>q.elim (fun q=>q.imp .inl id) fun(q:b=_)=>.inl (.inr q)) d.2⟩,J⟩
theorem aki(U:jT aa K T)(h:lA w aa T S lv sc nm n l ks vs)(aba:ks.all (·.isSome)=true)(hl:ks.length=vs.length)(h0:ks≠[])(hlen:ks.length≤15):
  SE w aa T S lv sc nm n (.aq l) (.Dict ks vs pos):=by
 intro A env ae hs ps st s r af X ao
 refine aN ao fun ll aj e1 e=> ?_
 refine bY e ?_
 have g0:(s.heap.push emptyDict).get? s.heap.objs.size=some emptyDict:=Heap.get?_push_size _ rfl
 have I':Inv w aa (fun b=>ae b∨b=s.heap.objs.size) hs ps st {s with heap:=s.heap.push emptyDict}:=X.I.pw Kp.og fun b q=>by subst q;exact⟨dU,isSome_of_eq_some g0⟩
 exact wpAny_Dict_walk (knd:=intKind ey w) aba hl h0 hlen (wm (h pos ⟨X.R,X.K,I',X.L⟩ e1) fun vs1 s1 z=>z.c.elim fun az c=>⟨az,c.1,⟨_,#[],0,z.e.aF.keep _ _ g0 fun q=>isSome_none (X.I.bB _ (.inr (.inr q))) dU,⟨rfl,rfl,rfl⟩,rfl,fun e he=>by simp at he,.nil,nodup_nil⟩,
  fun h' hd di=>XI X.I (X.I.sm U) z (c.2 [] [] ⟨rfl,rfl⟩) hd di⟩)
end
end
section
inductive GV where|fn (f:Addr)|bi (b:BI)|va (d:AV)
noncomputable def o6(f:AV→AV→Bool):List AV→List AV→Bool
 |[]=>fun b=>b.isEmpty
 |a::as=>fun b=>match b with
  |[]=>false
  |b::bs=>f a b&&o6 f as bs
theorem Yy(hf:∀a b,f a b=true→a=b):∀a b,o6 f a b=true→a=b:=fun a=>rec (motive:=fun a=>∀b,o6 f a b=true→a=b)
 (fun b h=>(isEmpty_iff.mp h).symm)
 (fun a as ih b=>rec (motive:=fun b=>o6 f (a::as) b=true→a::as=b) (fun h=>noConfusion h) (fun b bs _ h=>aS h fun h1 h2=>congr (congrArg List.cons (hf _ _ h1)) (ih _ h2)) b) a
noncomputable def ng:Nat→AV→AV→Bool
 |0=>fun _ _=>false
 |n+1=>fun a b=>AV.casesOn (motive_1:=fun _=>Bool) a (AV.casesOn (motive_1:=fun _=>Bool) b true (fun _=>false) (fun _=>false) (fun _=>false) (fun _=>false) (fun _=>false) (fun _=>false) (fun _=>false) (fun _ _=>false) (fun _ _ _=>false) (fun _=>false) (fun _=>false))
  (fun x=>if h:b.ctorIdx=1 then AV.bool.elim b h fun y=>x==y else false) (fun x=>if h:b.ctorIdx=2 then AV.int.elim b h fun y=>x==y else false) (fun x=>if h:b.ctorIdx=3 then AV.str.elim b h fun y=>x==y else false) (fun _=>false)
  (fun x=>if h:b.ctorIdx=5 then AV.tup.elim b h fun y=>o6 (ng n) x y else false) (fun _=>false) (fun _=>false) (fun _ _=>false) (fun _ _ _=>false) (fun _=>false) (fun _=>false)
def Df(g:Option GV)(f:Addr):Bool:=gM g fun g=>GV.casesOn (motive:=fun _=>Bool) g (fun g=>g==f) (fun _=>false) (fun _=>false)
def De(g:Option GV)(f:BI):Bool:=gM g fun g=>GV.casesOn (motive:=fun _=>Bool) g (fun _=>false) (fun g=>beq (bn g) (bn f)) (fun _=>false)
def LA(g:Option GV)(d:AV):Bool:=gM g fun g=>GV.casesOn (motive:=fun _=>Bool) g (fun _=>false) (fun _=>false) (fun g=>ng 4 g d)
noncomputable def nd(x:Str):Bool:= !(x==("__debug__":Str))
def qQ(sc:Scope)(x:Str):Bool:=sc.names.lookup x==some .globalImplicit&&nd x
def It(d:AV)(c:Const):Bool:=AV.casesOn (motive_1:=fun _=>Bool) d (beq c.ctorIdx 0)
 (fun a=>uI 1 c fun h=>Const.bool.elim c h fun b=>a==b) (fun a=>uI 2 c fun h=>Const.int.elim c h fun b=>a==b) (fun a=>uI 5 c fun h=>Const.str.elim c h fun b=>a==b&&decide (b.length≤16777216)) (fun a=>uI 6 c fun h=>Const.bytes.elim c h fun b=>a==b&&decide (b.length≤16777216))
 (fun _=>false) (fun _=>false) (fun _=>false) (fun _ _=>false) (fun _ _ _=>false) (fun _=>false) (fun _=>false)
def m5(e:Expr):List Str:=if h:e.ctorIdx=23 then Expr.Name.elim (motive_1:=fun _=>List Str) e h fun x _=>[x]else if h:e.ctorIdx=25 then Expr.Tuple.elim (motive_1:=fun _=>List Str) e h fun es _ _=>rj es else []
noncomputable def yM(nm:List (Str×Nat))(n:Nat)(scope:Scope)(xs:List Str):List (Str×Nat):=xs.zip (range' n xs.length)++nm.filter fun y=>scope.names.lookup y.1==some .free
noncomputable def aR.isNil(l:aR):Bool:=aR.casesOn (motive_2:=fun _=>Bool) l true (fun _ _=>false) fun _=>false
section
variable (G:Str→Option GV)
mutual
noncomputable def bZ:ME→Expr→Scope→List (Str×Nat)→Nat→Bool
 |.var i=>fun e _ nm _=>jF e fun x _=>nm.lookup x==some i&&nd x
 |.glob x d=>fun e sc _ _=>jF e fun y _=>y==x&&qQ sc x&&LA (G x) d
 |.con d=>fun e _ _ _=>L2 e fun c _ _=>It d c
 |.bin o a b=>fun e sc nm n=>LY e fun ea op eb _=>op==DY o&&bZ a ea sc nm n&&bZ b eb sc nm n
 |.neg a=>fun e sc nm n=>Dv e fun op ea _=>op==.USub&&bZ a ea sc nm n
 |.nt a=>fun e sc nm n=>Dv e fun op ea _=>op==.Not&&bZ a ea sc nm n
 |.cmp o a b=>fun e sc nm n=>Dk e fun ea ops bs _=>kd ops fun op=>kd bs fun eb=>op==dK o&&bZ a ea sc nm n&&bZ b eb sc nm n&& !behindInMarks (dK o) eb
 |.gb o p a b c=>fun e sc nm n=>Dk e fun ea ops bs _=>Du ops fun o1 p1=>Du bs fun eb ec=>o1==dK o&&(p1==dK p&&bZ a ea sc nm n&&bZ b eb sc nm n&&bZ c ec sc nm n&& !lastMarks [dK o,dK p] [eb,ec])
 |.cv k l=>fun e sc nm n=>LZ e fun op es _=>op==(if k then .And else .Or)&&jr l es sc nm n&& !l.isNil
 |.dj c a b=>fun e sc nm n=>L9 e fun ec ea eb _=>bZ c ec sc nm n&&bZ a ea sc nm n&&bZ b eb sc nm n
 |.tup l=>fun e sc nm n=>q8 e fun es _ _=>jr l es sc nm n&&decide (l.len≤1000)
 |.lst l=>fun e sc nm n=>Dp e fun es _=>jr l es sc nm n&&decide (l.len≤1000)
 |.aq l=>fun e sc nm n=>L3 e fun ks vs _=>Bs l ks vs sc nm n&&ks.all (·.isSome)&&decide (ks.length=vs.length)&&decide (ks.length≤15)
 |.attr a x=>fun e sc nm n=>pn e fun ea y _=>y==x&&oc ea&&bZ a ea sc nm n
 |.sub a b=>fun e sc nm n=>yr e fun ea eb _=>DP eb&&bZ a ea sc nm n&&bZ b eb sc nm n
 |.fW a lo hi=>fun e sc nm n=>yr e fun ea es _=>Mh es fun el eh st _=>st.isNone&&bZ a ea sc nm n&&Bt lo el sc nm n&&Bt hi eh sc nm n
 |.comp k t iter cond elt=>fun e sc nm n=>Mc e fun eelt gens scope _=>kd gens fun g=>g.is_async==0&&k==(m5 g.target).length&&(qy sc nm n scope (m5 g.target) (yM nm n scope (m5 g.target))&&bZ iter g.iter sc nm n&&oa g.iter&&
   bZ elt eelt (kx scope sc) (yM nm n scope (m5 g.target)) (n+(m5 g.target).length)&&(Ig cond g.ifs (kx scope sc) (yM nm n scope (m5 g.target)) (n+(m5 g.target).length)&&l6 (yM nm n scope (m5 g.target)) t g.target&&(pV t).all fun i=>decide (n≤i)))
 |.call x f l=>fun e sc nm n=>nV e fun fe args bX _=>jF fe fun y _=>y==x&&qQ sc x&&Df (G x) f&&bX.isEmpty&&(args.all notStar&&jr l args sc nm n)
 |.cz x f i l=>fun e sc nm n=>nV e fun fe args bX _=>jF fe fun y _=>y==x&&qQ sc x&&Df (G x) f&&bX.isEmpty&&kc args fun a ar=>jF a fun z _=>nm.lookup z==some i&&nd z&&ar.all notStar&&jr l ar sc nm n
 |.aO o x l=>fun e sc nm n=>nV e fun fe args bX pos=>pn fe fun eo y ap=>y==x&&oc eo&&(ap.endLine==pos.line)&&bX.isEmpty&&(args.all notStar&&decide (args.length<30)&&bZ o eo sc nm n&&jr l args sc nm n)
 |.blt b l=>fun e sc nm n=>nV e fun fe args bX pos=>bX.isEmpty&&args.all notStar&&jr l args sc nm n&&(jF fe (fun y _=>De (G y) b&&qQ sc y)||
   pn fe fun ie z ap=>jF ie fun y _=>beq (bn b) 13&&(y=="int"&&z=="from_bytes"&&qQ sc "int"&&De (G "int") .int&&((ap.endLine==pos.line)&&decide (args.length<30)&& !args.isEmpty)))
 |.bm b o l=>fun e sc nm n=>nV e fun fe args bX pos=>pn fe fun eo y ap=>(tA b).any (fun p=>p.1==y)&&oc eo&&(ap.endLine==pos.line)&&bX.isEmpty&&(args.all notStar&&decide (args.length<30)&&bZ o eo sc nm n&&jr l args sc nm n)
noncomputable def jr:aR→List Expr→Scope→List (Str×Nat)→Nat→Bool
 |.nil=>fun es _ _ _=>es.isEmpty
 |.cons a r=>fun es sc nm n=>kc es fun e er=>notStar e&&bZ a e sc nm n&&jr r er sc nm n
 |.new r=>fun es sc nm n=>kc es fun e er=>Dp e (fun l _=>l.isEmpty)&&jr r er sc nm n
noncomputable def Bs:aR→List (Option Expr)→List Expr→Scope→List (Str×Nat)→Nat→Bool
 |.nil=>fun ks vs _ _ _=>ks.isEmpty&&vs.isEmpty
 |.cons _ .nil=>fun _ _ _ _ _=>false
 |.cons _ (.new _)=>fun _ _ _ _ _=>false
 |.new _=>fun _ _ _ _ _=>false
 |.cons k (.cons v r)=>fun ks vs sc nm n=>kc ks fun k' ks=>kc vs fun ev vs=>gM k' fun ek=>bZ k ek sc nm n&&bZ v ev sc nm n&&Bs r ks vs sc nm n
noncomputable def Bt:MO→Option Expr→Scope→List (Str×Nat)→Nat→Bool
 |.no=>fun e _ _ _=>e.isNone
 |.yes a=>fun e sc nm n=>gM e fun e=>bZ a e sc nm n
noncomputable def Ig:MO→List Expr→Scope→List (Str×Nat)→Nat→Bool
 |.no=>fun e _ _ _=>e.isEmpty
 |.yes a=>fun e sc nm n=>kd e fun e=>bZ a e sc nm n
end
end
end
section
def sL(w:World)(aa:Heap)(K:Frag)(x:Str):GV→Prop
 |.fn f=>sP aa x (.ref f)∧keepIn K (.ref f)=true
 |.bi b=>∃v,oU b=some (x,v)∧sO aa x v
 |.va d=>A3 w aa x d
structure CX (w:World) (aa:Heap) (K:Frag) (T:Tab) (G:Str→Option GV):Prop where
 U:jT aa K T
 g:∀x v,G x=some v→sL w aa K x v
 fb:findCls K (.type "int") (.type "type") (Str.ofString "from_bytes")=some (.get (.builtin "classmethod_descriptor.__get__") (.builtin "int.from_bytes") .none (.type "int"))
theorem SR:∀n a b,ng n a b=true→a=b:=fun n=>Nat.rec (motive:=fun n=>∀a b,ng n a b=true→a=b) (fun _ _ h=>noConfusion h) (fun n ih a b=>AV.casesOn (motive_1:=fun a=>ng (n+1) a b=true→a=b) a
 (AV.casesOn (motive_1:=fun b=>ng (n+1) .none b=true→.none=b) b (fun _=>rfl) (fun _ h=>noConfusion h) (fun _ h=>noConfusion h) (fun _ h=>noConfusion h) (fun _ h=>noConfusion h) (fun _ h=>noConfusion h) (fun _ h=>noConfusion h) (fun _ h=>noConfusion h) (fun _ _ h=>noConfusion h) (fun _ _ _ h=>noConfusion h) (fun _ h=>noConfusion h) (fun _ h=>noConfusion h))
 (fun x h=>cK (p:=b.ctorIdx=1) (f:=fun h=>AV.bool.elim (motive_1:=fun _=>Bool) b h fun y=>x==y) h fun h=>AV.bool.elim (motive_1:=fun b=>∀h,AV.bool.elim (motive_1:=fun _=>Bool) b h (fun y=>x==y)=true→.bool x=b) b h (fun y _ h=>congrArg AV.bool (eq_of_beq h)) h)
 (fun x h=>cK (p:=b.ctorIdx=2) (f:=fun h=>AV.int.elim (motive_1:=fun _=>Bool) b h fun y=>x==y) h fun h=>AV.int.elim (motive_1:=fun b=>∀h,AV.int.elim (motive_1:=fun _=>Bool) b h (fun y=>x==y)=true→.int x=b) b h (fun y _ h=>congrArg AV.int (eq_of_beq h)) h)
 (fun x h=>cK (p:=b.ctorIdx=3) (f:=fun h=>AV.str.elim (motive_1:=fun _=>Bool) b h fun y=>x==y) h fun h=>AV.str.elim (motive_1:=fun b=>∀h,AV.str.elim (motive_1:=fun _=>Bool) b h (fun y=>x==y)=true→.str x=b) b h (fun y _ h=>congrArg AV.str (eq_of_beq h)) h)
 (fun _ h=>noConfusion h)
 (fun x h=>cK (p:=b.ctorIdx=5) (f:=fun h=>AV.tup.elim (motive_1:=fun _=>Bool) b h fun y=>o6 (ng n) x y) h fun h=>AV.tup.elim (motive_1:=fun b=>∀h,AV.tup.elim (motive_1:=fun _=>Bool) b h (fun y=>o6 (ng n) x y)=true→.tup x=b) b h (fun y _ h=>congrArg AV.tup (Yy ih _ _ h)) h)
 (fun _ h=>noConfusion h) (fun _ h=>noConfusion h) (fun _ _ h=>noConfusion h) (fun _ _ _ h=>noConfusion h) (fun _ h=>noConfusion h) (fun _ h=>noConfusion h)) n
section
variable {T:Tab} {S:cf} {lv:Nat} {K:Frag} {G:Str→Option GV}
theorem Ct{x:Str}(X:CX w aa K T G){f:GV→Bool}{P:Prop}(h:gM (G x) f=true)(k:∀v,f v=true→sL w aa K x v→P):P:=
 oy (D:=fun o=>G x=o→P) h (fun v h e=>k v h (X.g x v e)) rfl
theorem Km{x:Str}{f:Addr}(X:CX w aa K T G)(h:Df (G x) f=true):sP aa x (.ref f)∧keepIn K (.ref f)=true:=
 Ct X h fun v h k=>by cases v with
  |fn g=>exact eq_of_beq h▸k
  |bi=>cases h
  |va=>cases h
theorem Hc{x:Str}{b:BI}(X:CX w aa K T G)(h:De (G x) b=true):∃v,oU b=some (x,v)∧sO aa x v:=
 Ct X h fun v h k=>by cases v with
  |bi g=>exact Hk h▸k
  |fn=>cases h
  |va=>cases h
theorem amv{x:Str}{d:AV}(X:CX w aa K T G)(h:LA (G x) d=true):A3 w aa x d:=
 Ct X h fun v h k=>by cases v with
  |va g=>exact SR _ _ _ h▸k
  |bi=>cases h
  |fn=>cases h
theorem not_of(h:(!b)=true):b=false:=by cases b<;>first|rfl|cases h
theorem ro(h:nd x=true):(x==("__debug__":Str))=false:=not_of h
theorem tZ{sc:Scope}{x:Str}{P:Prop}(h:qQ sc x=true)(k:sc.names.lookup x=some .globalImplicit→(x==("__debug__":Str))=false→P):P:=aS h fun h1 h2=>k (eq_of_beq h1) (ro h2)
theorem yS{c:Const}{n:Nat}{f:c.ctorIdx=n→Bool}{P:Prop}(h:uI n c f=true)(k:∀h,f h=true→P):P:=cK h k
structure bP (w:World) (aa:Heap) (T:Tab) (S:cf) (lv:Nat) (sc:Scope) (nm:List (Str×Nat)) (n:Nat) (me:ME) (e:Expr):Prop where
 s:SE w aa T S lv sc nm n me e
 t:ST w aa T S lv sc nm n me e
structure A6 (w:World) (aa:Heap) (T:Tab) (S:cf) (lv:Nat) (sc:Scope) (nm:List (Str×Nat)) (n:Nat) (me:aR) (e:List Expr):Prop where
 s:mi w aa T S lv sc nm n me e
 r:oM w aa T S lv sc nm n me e
 t:∀k,sS w aa T S lv sc nm n k me e
 b:me.isNil=false→∀k,qc w aa T S lv sc nm n k me e
 a:oK w aa T S lv sc nm n me e
theorem both(h:SE w aa T S lv sc nm n me e)(he:∀env whole,isTrue e env whole=(do let v ←whole;standAt e.pos;holding [v] (truthy v))):bP w aa T S lv sc nm n me e:=⟨h,h.t he⟩
theorem WW{d:AV}{c:Const}{k:Nat}{pos:Pos}{nm}{n:Nat}(h:It d c=true):bP w aa T S lv sc nm n (.con d) (.Constant c k pos):=by
 cases d with
 |none=>exact Const.none.elim (motive:=fun c=>bP w aa T S lv sc nm n (.con .none) (.Constant c k pos)) c (eq_of_beq_eq_true h) (both akg fun _ _=>rfl)
 |bool a=>exact yS h fun q=>Const.bool.elim (motive:=fun c=>∀q,Const.bool.elim (motive:=fun _=>Bool) c q (fun b=>a==b)=true→bP w aa T S lv sc nm n (.con (.bool a)) (.Constant c k pos)) c q (fun b _ h=>by rw[eq_of_beq h];exact both akd fun _ _=>rfl) q
 |int a=>exact yS h fun q=>Const.int.elim (motive:=fun c=>∀q,Const.int.elim (motive:=fun _=>Bool) c q (fun b=>a==b)=true→bP w aa T S lv sc nm n (.con (.int a)) (.Constant c k pos)) c q (fun b _ h=>by rw[eq_of_beq h];exact both akf fun _ _=>rfl) q
 |str a=>exact yS h fun q=>Const.str.elim (motive:=fun c=>∀q,Const.str.elim (motive:=fun _=>Bool) c q (fun b=>a==b&&decide (b.length≤16777216))=true→bP w aa T S lv sc nm n (.con (.str a)) (.Constant c k pos)) c q (fun b _ h=>aS h fun h1 h2=>by rw[eq_of_beq h1];exact both (akh (bK h2)) fun _ _=>rfl) q
 |bytes a=>exact yS h fun q=>Const.bytes.elim (motive:=fun c=>∀q,Const.bytes.elim (motive:=fun _=>Bool) c q (fun b=>a==b&&decide (b.length≤16777216))=true→bP w aa T S lv sc nm n (.con (.bytes a)) (.Constant c k pos)) c q (fun b _ h=>aS h fun h1 h2=>by rw[eq_of_beq h1];exact both (ake (bK h2)) fun _ _=>rfl) q
 |_=>exact noConfusion h
theorem emp(h:l.isEmpty=true):l=[]:=isEmpty_iff.mp h
theorem jv{α:Type}{C:List α→Prop}{l:List α}(h:l.isEmpty=true)(k:C []):C l:=emp h▸k
variable (T S lv G)
def PE(me:ME):Prop:=∀{e} {sc} {nm} {n},bZ G me e sc nm n=true→bP w aa T S lv sc nm n me e
def QZ(me:aR):Prop:=∀{e} {sc} {nm} {n},jr G me e sc nm n=true→A6 w aa T S lv sc nm n me e
def PD(me:aR):Prop:=∀{ks} {vs} {sc} {nm} {n},Bs G me ks vs sc nm n=true→lA w aa T S lv sc nm n me ks vs
structure PM (l:aR):Prop where
 s:QZ T S lv G l
 d:PD T S lv G l
 k:∀k,PE T S lv G k→PD T S lv G (.cons k l)
structure PP (m:MO):Prop where
 o:∀{e} {sc} {nm} {n},Bt G m e sc nm n=true→qd w aa T S lv sc nm n m e
 p:∀{e} {sc} {nm} {n},Ig G m e sc nm n=true→mh w aa T S lv sc nm n m e
variable {T S lv G}
variable (X:CX w aa K T G) (C:jl w aa S lv)
include X C
theorem Vs(i:Nat):PE T S lv G (.var i):=fun {e sc nm n} h=>kg h fun x p h=>aS h fun h1 h2=>both (OT (eq_of_beq h1) (ro h2)) fun _ _=>rfl
theorem Vd(x:Str)(d:AV):PE T S lv G (.glob x d):=fun {e sc nm n} h=>kg h fun y p h=>eE h fun h1 h2 h3=>gB (C:=fun y=>bP w aa T S lv sc nm n _ (.Name y p)) h1 (tZ h2 fun g1 g2=>both (akl g1 g2 (amv X h3)) fun _ _=>rfl)
theorem U7(d:AV):PE T S lv G (.con d):=fun {e sc nm n} h=>WX h fun c k p h=>WW h
theorem UY(o:BO)(a b:ME)(ia:PE T S lv G a)(ib:PE T S lv G b):PE T S lv G (.bin o a b):=fun {e sc nm n} h=>Ui h fun ea op eb p h=>eE h fun h1 h2 h3=>
 gB (C:=fun op=>bP w aa T S lv sc nm n _ (.BinOp ea op eb p)) h1 (both (aj4 (ia h2).1 (ib h3).1) fun _ _=>rfl)
theorem Vm(a:ME)(ia:PE T S lv G a):PE T S lv G (.neg a):=fun {e sc nm n} h=>PC h fun op ea p h=>aS h fun h1 h2=>
 gB (C:=fun op=>bP w aa T S lv sc nm n _ (.UnaryOp op ea p)) h1 (both (akp (ia h2).1) fun _ _=>rfl)
theorem Vn(a:ME)(ia:PE T S lv G a):PE T S lv G (.nt a):=fun {e sc nm n} h=>PC h fun op ea p h=>aS h fun h1 h2=>
 gB (C:=fun op=>bP w aa T S lv sc nm n _ (.UnaryOp op ea p)) h1 ⟨akq (ia h2).1,alG (ia h2).2⟩
theorem U4(o:CO)(a b:ME)(ia:PE T S lv G a)(ib:PE T S lv G b):PE T S lv G (.cmp o a b):=fun {e sc nm n} h=>Ik h fun ea ops bs p h=>
 lh (C:=fun l=>bP w aa T S lv sc nm n _ (.Compare ea l bs p)) h fun op h=>lh (C:=fun l=>bP w aa T S lv sc nm n _ (.Compare ea [op] l p)) h fun eb h=>gW h fun h1 h2 h3 h4=>
 gB (C:=fun op=>bP w aa T S lv sc nm n _ (.Compare ea [op] [eb] p)) h1 ⟨aka (ia h2).1 (ib h3).1 (not_of h4),alD (ia h2).1 (ib h3).1 (not_of h4)⟩
theorem U5(o q:CO)(a b c:ME)(ia:PE T S lv G a)(ib:PE T S lv G b)(ic:PE T S lv G c):PE T S lv G (.gb o q a b c):=fun {e sc nm n} h=>Ik h fun ea ops bs p h=>
 PB (C:=fun l=>bP w aa T S lv sc nm n _ (.Compare ea l bs p)) h fun o1 p1 h=>PB (C:=fun l=>bP w aa T S lv sc nm n _ (.Compare ea [o1,p1] l p)) h fun eb ec h=>aS h fun h0 h=>gX h fun h1 h2 h3 h5 h4=>
 gB (C:=fun o1=>bP w aa T S lv sc nm n _ (.Compare ea [o1,p1] [eb,ec] p)) h0 (gB (C:=fun p1=>bP w aa T S lv sc nm n _ (.Compare ea [dK o,p1] [eb,ec] p)) h1
  ⟨akb (ia h2).1 (ib h3).1 (ic h5).1 (not_of h4),alE (ia h2).1 (ib h3).1 (ic h5).1 (not_of h4)⟩)
theorem U1(k:Bool)(l)(il:PM T S lv G l):PE T S lv G (.cv k l):=fun {e sc nm n} h=>UH h fun op es p h=>eE h fun h1 h2 h3=>
 gB (C:=fun op=>bP w aa T S lv sc nm n _ (.BoolOp op es p)) h1 ⟨aj7 ((il.s h2).b (not_of h3) k),alC ((il.s h2).t k)⟩
theorem Vf(c a b:ME)(ic:PE T S lv G c)(ia:PE T S lv G a)(ib:PE T S lv G b):PE T S lv G (.dj c a b):=fun {e sc nm n} h=>acd h fun ec ea eb p h=>eE h fun h1 h2 h3=>
 ⟨akm (ic h1).2 (ia h2).1 (ib h3).1,alF (ic h1).2 (ia h2).2 (ib h3).2⟩
theorem Vq(l)(il:PM T S lv G l):PE T S lv G (.tup l):=fun {e sc nm n} h=>vU h fun es k p h=>aS h fun h1 h2=>both (akt (il.s h1).s (bK h2)) fun _ _=>rfl
theorem Vh(l)(il:PM T S lv G l):PE T S lv G (.lst l):=fun {e sc nm n} h=>Mr h fun es p h=>aS h fun h1 h2=>both (akn (il.s h1).s (bK h2)) fun _ _=>rfl
theorem U8(l)(il:PM T S lv G l):PE T S lv G (.aq l):=fun {e sc nm n} h=>XR h fun ks vs p h=>gW h fun h1 h2 h3 h4=>by
 cases ks with
 |cons k ks=>exact both (aki X.U (il.d h1) h2 (bK h3) (cons_ne_nil _ _) (bK h4)) fun _ _=>rfl
 |nil=>cases vs with
  |cons _ _=>exact absurd (bK h3) (fun q=>Nat.noConfusion q)
  |nil=>cases l with
   |nil=>exact both (akj X.U) fun _ _=>rfl
   |cons a r=>cases r<;>exact noConfusion h1
   |new r=>exact noConfusion h1
theorem UX(a:ME)(x:Str)(ia:PE T S lv G a):PE T S lv G (.attr a x):=fun {e sc nm n} h=>qg h fun ea y p h=>eE h fun h1 h2 h3=>
 gB (C:=fun y=>bP w aa T S lv sc nm n _ (.Attribute ea y p)) h1 (both (aj3 X.U (ia h3).1 h2) fun _ _=>rfl)
theorem Vp(a b:ME)(ia:PE T S lv G a)(ib:PE T S lv G b):PE T S lv G (.sub a b):=fun {e sc nm n} h=>ED h fun ea eb p h=>eE h fun h1 h2 h3=>both (aks (ia h2).1 (ib h3).1 h1) fun _ _=>rfl
theorem Vo(a:ME)(lo hi:MO)(ia:PE T S lv G a)(il:PP T S lv G lo)(ih:PP T S lv G hi):PE T S lv G (.fW a lo hi):=fun {e sc nm n} h=>ED h fun ea es p h=>
 alb (C:=fun es=>bP w aa T S lv sc nm n _ (.Subscript ea es p)) h fun el eh st q h=>gW h fun h0 h1 h2 h3=>by
  cases st with
  |some=>exact noConfusion h0
  |none=>exact both (akr (ia h1).1 (il.o h2) (ih.o h3)) fun _ _=>rfl
theorem Mo{k:Nat}{t:eO}{iter:ME}{cond:MO}{elt:ME}{eelt:Expr}{gens:List Comprehension}{sc:Scope}{nm:List (Str×Nat)}{n:Nat}(ii:PE T S lv G iter)(ic:PP T S lv G cond)(ie:PE T S lv G elt){P:Nat→List Comprehension→Prop}
  (h:bZ G (.comp k t iter cond elt) (.ListComp eelt gens scope p) sc nm n=true) (f:∀tg it ifs xs du,qy sc nm n scope xs du=true→bP w aa T S lv sc nm n iter it→oa it=true→bP w aa T S lv (kx scope sc) du (n+xs.length) elt eelt→
   mh w aa T S lv (kx scope sc) du (n+xs.length) cond ifs→l6 du t tg=true→(pV t).all (fun i=>decide (n≤i))=true→P xs.length [⟨tg,it,ifs,0⟩]):P k gens:=
 lh (C:=fun l=>P k l) h fun g h=>by
  cases g with
  |mk tg it ifs as=>exact eE h fun h1 h2 h=>gX h fun h3 h4 h5 h6 h=>eE h fun h7 h8 h9=>gB (C:=fun k=>P k [⟨tg,it,ifs,as⟩]) h2 (gB (C:=fun a=>P (m5 tg).length [⟨tg,it,ifs,a⟩]) h1 (f tg it ifs _ _ h3 (ii h4) h5 (ie h6) (ic.p h7) h8 h9))
theorem U6(k:Nat)(t:eO)(iter:ME)(cond:MO)(elt:ME)(ii:PE T S lv G iter)(ic:PP T S lv G cond)(ie:PE T S lv G elt):PE T S lv G (.comp k t iter cond elt):=fun {e sc nm n} h=>aet h fun eelt gens scope p h=>
 Mo X C ii ic ie (t:=t) (eelt:=eelt) (scope:=scope) (p:=p) (sc:=sc) (nm:=nm) (n:=n) (P:=fun k l=>bP w aa T S lv sc nm n (.comp k t iter cond elt) (.ListComp eelt l scope p)) h fun tg it ifs xs du h1 h2 h3 h4 h5 h6 h7=>both (akc h1 h2.1 h3 h4.1 h5 h6 h7) fun _ _=>rfl
theorem U2(x:Str)(f:Addr)(l)(il:PM T S lv G l):PE T S lv G (.call x f l):=fun {e sc nm n} h=>qr h fun fe args bX p h=>
 kg (C:=fun fe=>bP w aa T S lv sc nm n _ (.Call fe args bX p)) h fun y q h=>gX h fun h1 h2 h3 h4 h=>aS h fun h5 h7=>
 gB (C:=fun y=>bP w aa T S lv sc nm n _ (.Call (.Name y q) args bX p)) h1 (jv (C:=fun bX=>bP w aa T S lv sc nm n _ (.Call (.Name x q) args bX p)) h4 (tZ h2 fun g1 g2=>have fk:=Km X h3;both (aj9 X.U C g1 g2 fk.1 fk.2 h5 (il.s h7).s) fun _ _=>rfl))
theorem U3(x:Str)(f:Addr)(i)(l)(il:PM T S lv G l):PE T S lv G (.cz x f i l):=fun {e sc nm n} h=>qr h fun fe args bX p h=>
 kg (C:=fun fe=>bP w aa T S lv sc nm n _ (.Call fe args bX p)) h fun y q h=>gX h fun h1 h2 h3 h4 h=>
 gB (C:=fun y=>bP w aa T S lv sc nm n _ (.Call (.Name y q) args bX p)) h1 (jv (C:=fun bX=>bP w aa T S lv sc nm n _ (.Call (.Name x q) args bX p)) h4 (jW (C:=fun args=>bP w aa T S lv sc nm n _ (.Call (.Name x q) args [] p)) h fun z ar h=>
 kg (C:=fun z=>bP w aa T S lv sc nm n _ (.Call (.Name x q) (z::ar) [] p)) h fun z q' h=>gW h fun h5 h6 h7 h8=>tZ h2 fun g1 g2=>have fk:=Km X h3;both (aj8 X.U C g1 g2 fk.1 fk.2 h7 (OT (eq_of_beq h5) (ro h6)) (il.s h8).s) fun _ _=>rfl))
theorem Vj(o:ME)(x:Str)(l:aR)(io:PE T S lv G o)(il:PM T S lv G l):PE T S lv G (.aO o x l):=fun {e sc nm n} h=>qr h fun fe args bX p h=>
 qg (C:=fun fe=>bP w aa T S lv sc nm n _ (.Call fe args bX p)) h fun eo y q h=>gX h fun h1 h2 h3 h4 h=>gW h fun h5 h6 h7 h8=>
 gB (C:=fun y=>bP w aa T S lv sc nm n _ (.Call (.Attribute eo y q) args bX p)) h1 (jv (C:=fun bX=>bP w aa T S lv sc nm n _ (.Call (.Attribute eo x q) args bX p)) h4
  (both (ako X.U C (io h7).1 (il.s h8).s h2 h3 h5 (bK h6)) fun _ _=>rfl))
theorem UZ(b:BI)(l)(il:PM T S lv G l):PE T S lv G (.blt b l):=fun {e sc nm n} h=>qr h fun fe args bX p h=>gW h fun h1 h2 h3 h=>
 jv (C:=fun bX=>bP w aa T S lv sc nm n _ (.Call fe args bX p)) h1 (Or.elim (or_eq_true_iff.mp h)
  (fun h=>kg (C:=fun fe=>bP w aa T S lv sc nm n _ (.Call fe args [] p)) h fun y q h=>aS h fun h4 h5=>tZ h5 fun g1 g2=>(Hc X h4).elim fun v hv=>
   both (aj5 X.U hv.1 g1 g2 hv.2 h2 (il.s h3).r) fun _ _=>rfl)
  (fun h=>qg (C:=fun fe=>bP w aa T S lv sc nm n _ (.Call fe args [] p)) h fun ie z q h=>kg (C:=fun ie=>bP w aa T S lv sc nm n _ (.Call (.Attribute ie z q) args [] p)) h fun y r h=>aS h fun h4 h=>gX h fun h5 h6 h7 h8 h=>eE h fun h9 qT nK=>by
   obtain rfl:=Hk (b:=.fromBytes) h4
   obtain rfl:=eq_of_beq h5
   obtain rfl:=eq_of_beq h6
   refine tZ h7 fun g1 g2=>(Hc X h8).elim fun v hv=> ?_
   exact both (akk X.U g1 (by cases hv.1;exact hv.2) X.fb h9 h2 (bK qT) (fun q=>by subst q;cases nK) (il.s h3).r) fun _ _=>rfl))
theorem U0(b:BI)(o:ME)(l:aR)(io:PE T S lv G o)(il:PM T S lv G l):PE T S lv G (.bm b o l):=fun {e sc nm n} h=>qr h fun fe args bX p h=>
 qg (C:=fun fe=>bP w aa T S lv sc nm n _ (.Call fe args bX p)) h fun eo y q h=>gX h fun h1 h2 h3 h4 h=>gW h fun h5 h6 h7 h8=>
 jv (C:=fun bX=>bP w aa T S lv sc nm n _ (.Call (.Attribute eo y q) args bX p)) h4 ((any_some h1).elim fun r hr=>
  gB (C:=fun x=>bP w aa T S lv sc nm n _ (.Call (.Attribute eo x q) args [] p)) (x:=y) (y:=r.1) (by rw[eq_of_beq hr.2];exact beq_self_eq_true _) (both (aj6 hr.1 (io h7).1 (il.s h8).r h2 h3 h5 (bK h6)) fun _ _=>rfl))
theorem H2:PM T S lv G .nil where
 s:=fun h=>jv h ⟨akN,akL,fun _=>set_nil,fun q=>noConfusion q,akw⟩
 d:=fun {ks vs sc nm n} h=>aS h fun h1 h2=>jv (C:=fun ks=>lA w aa T S lv sc nm n .nil ks vs) h1 (jv (C:=fun vs=>lA w aa T S lv sc nm n .nil [] vs) h2 akA)
 k:=fun _ _=>fun h=>noConfusion h
omit X C in
theorem akx(h3:jr G r er sc nm n=true)(y:SE w aa T S lv sc nm n a e)(z:A6 w aa T S lv sc nm n r er):qc w aa T S lv sc nm n k (.cons a r) (e::er):=by
 intro A env ae hs ps st s b af pos x ao
 cases r with
 |nil=>obtain rfl:=emp (l:=er) h3;exact aky y pos x ao
 |cons c r=>exact(jW (C:=fun er=>∃eb tJ,er=eb::tJ) h3 fun eb er _=>⟨eb,er,rfl⟩).elim fun eb f=>f.elim fun tJ f=>by subst f;exact OU y (z.b rfl k) pos x ao
 |new r=>exact(jW (C:=fun er=>∃eb tJ,er=eb::tJ) h3 fun eb er _=>⟨eb,er,rfl⟩).elim fun eb f=>f.elim fun tJ f=>by subst f;exact OU y (z.b rfl k) pos x ao
theorem HY(a:ME)(r:aR)(ia:PE T S lv G a)(ir:PM T S lv G r):PM T S lv G (.cons a r) where
 s:=fun {e sc nm n} h=>jW h fun e er h=>eE h fun h1 h2 h3=>by
  have z:=ir.s h3
  have y:=ia h2
  exact⟨akM h1 y.1 z.s,akK h1 y.1 z.r,fun k=>akQ y.2 (z.t k),fun _ k=>akx h3 y.1 z,aku h1 y.1 z.a⟩
 d:=ir.k a ia
 k:=fun k ik=>fun {ks vs sc nm n} h=>jW (C:=fun ks=>lA w aa T S lv sc nm n (.cons k (.cons a r)) ks vs) h fun k' ks h=>jW (C:=fun vs=>lA w aa T S lv sc nm n (.cons k (.cons a r)) (k'::ks) vs) h fun ev vs h=>
  oy (D:=fun k'=>lA w aa T S lv sc nm n (.cons k (.cons a r)) (k'::ks) (ev::vs)) h fun ek h=>eE h fun h1 h2 h3=>akz (ik h1).1 (ia h2).1 (ir.d h3)
omit X C in
theorem H0(r)(ir:PM T S lv G r):PM T S lv G (.new r) where
 s:=fun {e sc nm n} h=>jW h fun e er h=>aS h fun h1 h2=>by
  refine Mr (C:=fun e=>A6 w aa T S lv sc nm n (.new r) (e::er)) h1 fun es p h=> ?_
  rw[emp (l:=es) h]
  constructor
  ·intro A env ae hs ps st s ds af pos X ao;exact ba ao
  ·intro A env ae hs ps st s ds af pos X ao;exact ba ao
  ·intro k A env ae hs ps st s b af X ao;exact ba ao
  ·intro _ k A env ae hs ps st s b af pos X ao;exact ba ao
  ·exact akv (ir.s h2).a
 d:=fun h=>noConfusion h
 k:=fun _ _=>fun h=>noConfusion h
theorem H4:PP T S lv G .no where
 o:=fun {e sc nm n} h=>by
  cases e with
  |none=>exact akG
  |some=>exact noConfusion h
 p:=fun {e sc nm n} h=>by rw[emp (l:=e) h];exact akI
theorem H5(a:ME)(ia:PE T S lv G a):PP T S lv G (.yes a) where
 o:=fun {e sc nm n} h=>by
  refine oy (D:=fun e=>qd w aa T S lv sc nm n (.yes a) e) h fun e h=> ?_
  exact akH (ia h).1
 p:=fun {e sc nm n} h=>by
  refine lh (C:=fun e=>mh w aa T S lv sc nm n (.yes a) e) h fun e h=> ?_
  exact akJ (ia h).2
theorem gZ(me:ME):PE T S lv G me:=ME.rec (motive_1:=PE T S lv G) (motive_2:=PM T S lv G) (motive_3:=PP T S lv G)
 (Vs X C) (Vd X C) (U7 X C) (UY X C) (Vm X C) (Vn X C) (U4 X C) (U5 X C) (U1 X C) (Vf X C) (Vq X C) (Vh X C) (U8 X C) (UX X C) (Vp X C) (Vo X C) (U6 X C) (U2 X C) (U3 X C) (Vj X C) (UZ X C) (U0 X C) (H2 X C) (HY X C) H0 (H4 X C) (H5 X C) me
theorem Wd(l):PM T S lv G l:=aR.ind (H2 X C) (fun a r ir=>HY X C a r (gZ X C a) ir) H0 l
theorem We(o:MO):PP T S lv G o:=by
 cases o with
 |no=>exact H4 X C
 |yes a=>exact H5 X C a (gZ X C a)
end
end
section
section
variable {C:Stmt→Prop}
def Mg(e:Stmt)(f:Option Expr→Pos→Bool):Bool:=rG 3 e fun h=>Stmt.Return.elim (motive_2:=fun _=>Bool) e h f
theorem ajg(h:Mg e f=true)(k:∀a p,f a p=true→C (.Return a p)):C e:=cK (f:=fun h=>Stmt.Return.elim (motive_2:=fun _=>Bool) e h f) h fun h=>Stmt.Return.elim (motive_2:=fun e=>∀h,Stmt.Return.elim (motive_2:=fun _=>Bool) e h f=true→C e) e h (fun a p _=>k a p) h
def q7(e:Stmt)(f:List Expr→Expr→Pos→Bool):Bool:=rG 5 e fun h=>Stmt.Assign.elim (motive_2:=fun _=>Bool) e h f
theorem td(h:q7 e f=true)(k:∀a b p,f a b p=true→C (.Assign a b p)):C e:=cK (f:=fun h=>Stmt.Assign.elim (motive_2:=fun _=>Bool) e h f) h fun h=>Stmt.Assign.elim (motive_2:=fun e=>∀h,Stmt.Assign.elim (motive_2:=fun _=>Bool) e h f=true→C e) e h (fun a b p _=>k a b p) h
def L6(e:Stmt)(f:Expr→Expr→List Stmt→List Stmt→Pos→Bool):Bool:=rG 9 e fun h=>Stmt.For.elim (motive_2:=fun _=>Bool) e h f
theorem aax(h:L6 e f=true)(k:∀a b c d p,f a b c d p=true→C (.For a b c d p)):C e:=cK (f:=fun h=>Stmt.For.elim (motive_2:=fun _=>Bool) e h f) h fun h=>Stmt.For.elim (motive_2:=fun e=>∀h,Stmt.For.elim (motive_2:=fun _=>Bool) e h f=true→C e) e h (fun a b c d p _=>k a b c d p) h
def Mi(e:Stmt)(f:Expr→List Stmt→List Stmt→Pos→Bool):Bool:=rG 11 e fun h=>Stmt.While.elim (motive_2:=fun _=>Bool) e h f
theorem amC(h:Mi e f=true)(k:∀a b c p,f a b c p=true→C (.While a b c p)):C e:=cK (f:=fun h=>Stmt.While.elim (motive_2:=fun _=>Bool) e h f) h fun h=>Stmt.While.elim (motive_2:=fun e=>∀h,Stmt.While.elim (motive_2:=fun _=>Bool) e h f=true→C e) e h (fun a b c p _=>k a b c p) h
def Ma(e:Stmt)(f:Expr→List Stmt→List Stmt→Pos→Bool):Bool:=rG 12 e fun h=>Stmt.If.elim (motive_2:=fun _=>Bool) e h f
theorem ace(h:Ma e f=true)(k:∀a b c p,f a b c p=true→C (.If a b c p)):C e:=cK (f:=fun h=>Stmt.If.elim (motive_2:=fun _=>Bool) e h f) h fun h=>Stmt.If.elim (motive_2:=fun e=>∀h,Stmt.If.elim (motive_2:=fun _=>Bool) e h f=true→C e) e h (fun a b c p _=>k a b c p) h
def Dl(e:Stmt)(f:Expr→Pos→Bool):Bool:=rG 24 e fun h=>Stmt.Expr.elim (motive_2:=fun _=>Bool) e h f
theorem I3(h:Dl e f=true)(k:∀a p,f a p=true→C (.Expr a p)):C e:=cK (f:=fun h=>Stmt.Expr.elim (motive_2:=fun _=>Bool) e h f) h fun h=>Stmt.Expr.elim (motive_2:=fun e=>∀h,Stmt.Expr.elim (motive_2:=fun _=>Bool) e h f=true→C e) e h (fun a p _=>k a p) h
end
noncomputable def ME.on(e:ME)(fc:AV→Bool)(b:Bool):Bool:=ME.casesOn (motive_1:=fun _=>Bool) e (fun _=>false) (fun _ _=>false) fc (fun _ _ _=>false) (fun _=>false) (fun _=>false) (fun _ _ _=>false) (fun _ _ _ _ _=>false) (fun _ _=>false) (fun _ _ _=>false) (fun _=>false) (fun _=>false) (fun _=>false) (fun _ _=>false) (fun _ _=>false) (fun _ _ _=>false) (fun _ _ _ _ _=>b) (fun _ _ _=>false) (fun _ _ _ _=>false) (fun _ _ _=>false) (fun _ _=>false) fun _ _ _=>false
theorem eT{P:Prop}(h:false=true):P:=noConfusion h
theorem Nc{f b}{C:ME→Prop}(h:e.on f b=true)(k:∀d,f d=true→C (.con d))(k':∀n t i c e,b=true→C (.comp n t i c e)):C e:=ME.casesOn (motive_1:=fun e=>e.on f b=true→C e) e (fun _=>eT) (fun _ _=>eT) k (fun _ _ _=>eT) (fun _=>eT) (fun _=>eT) (fun _ _ _=>eT) (fun _ _ _ _ _=>eT) (fun _ _=>eT) (fun _ _ _=>eT) (fun _=>eT) (fun _=>eT) (fun _=>eT) (fun _ _=>eT) (fun _ _=>eT) (fun _ _ _=>eT) k' (fun _ _ _=>eT) (fun _ _ _ _=>eT) (fun _ _ _=>eT) (fun _ _=>eT) (fun _ _ _=>eT) h
def SA(e:ME)(v:Expr):Bool:=(beq v.ctorIdx 8&&e.on (fun _=>false) true)||lK v
section
variable (T:Tab) (G:Str→Option GV)
mutual
noncomputable def Ih:MS→Stmt→Scope→List (Str×Nat)→Nat→Bool
 |.asg i _ e=>fun x sc nm n=>q7 x fun ts v _=>kd ts fun t=>jF t fun y _=>nm.lookup y==some i&&bZ G e v sc nm n&&SA e v
 |.eZ rev is es=>fun x sc nm n=>q7 x fun ts v _=>kd ts fun t=>q8 t fun elts k tp=>q8 v fun xs kk vp=>jr G es xs sc nm n&&kD nm is elts&&decide (es.len≤1000)&&sr sc (.Tuple elts k tp) (.Tuple xs kk vp) (if rev then some (rj elts)else none)
 |.fK is e=>fun x sc nm n=>q7 x fun ts v _=>kd ts fun t=>q8 t fun elts k tp=>bZ G e v sc nm n&&kD nm is elts&&lK v&&sr sc (.Tuple elts k tp) v none
 |.aV i x e=>fun s sc nm n=>q7 s fun ts v _=>kd ts fun t=>pn t fun y z _=>jF y fun y _=>z==x&&nm.lookup y==some i&&nd y&&bZ G e v sc nm n
 |.fF i k e=>fun s sc nm n=>q7 s fun ts v _=>kd ts fun t=>yr t fun y xk _=>jF y fun y _=>nm.lookup y==some i&&nd y&&lK v&&bZ G k xk sc nm n&&bZ G e v sc nm n
 |.app i e=>fun s sc nm n=>Dl s fun c _=>nV c fun fe vs bX cp=>pn fe fun y m ap=>jF y fun y _=>kd vs fun v=>m=="append"&&nm.lookup y==some i&&nd y&&notStar v&&((ap.endLine==cp.line)&&bX.isEmpty&&bZ G e v sc nm n)
 |.drop e=>fun s sc nm n=>Dl s fun v _=>lK v&&bZ G e v sc nm n
 |.ret e=>fun s sc nm n=>Mg s fun v _=>casesOn (motive:=fun _=>Bool) v (e.on (fun d=>beq d.ctorIdx 0) false) fun v=>bZ G e v sc nm n
 |.iff c a b=>fun s sc nm n=>Ma s fun ec ea eb _=>bZ G c ec sc nm n&&nr a ea sc nm n&&nr b eb sc nm n
 |.gw c b=>fun s sc nm n=>Mi s fun ec eb es _=>es.isEmpty&&bZ G c ec sc nm n&&nr b eb sc nm n
 |.bz t e b=>fun s sc nm n=>L6 s fun target iter eb es _=>es.isEmpty&&bZ G e iter sc nm n&&oa iter&&nr b eb sc nm n&&l6 nm t target
 |.stop=>fun _ _ _ _=>true
noncomputable def nr:ai→List Stmt→Scope→List (Str×Nat)→Nat→Bool
 |.nil=>fun s _ _ _=>s.isEmpty
 |.cons a r=>fun s sc nm n=>kc s fun x xs=>Ih a x sc nm n&&nr r xs sc nm n
end
end
section
variable {T:Tab} {S:cf} {lv F:Nat} {K:Frag} {G:Str→Option GV}
variable (T S lv F G)
structure dA (sc:Scope) (nm:List (Str×Nat)) (n:Nat) (ms:MS) (x:Stmt):Prop where
 s:SS w aa T S lv F sc nm n ms x
structure Fx (sc:Scope) (nm:List (Str×Nat)) (n:Nat) (ms:ai) (x:List Stmt):Prop where
 s:iz w aa T S lv F sc nm n ms x
def PS(m:MS):Prop:=∀{x} {sc} {nm} {n},Ih G m x sc nm n=true→dA T S lv F sc nm n m x
def mc(m:ai):Prop:=∀{x} {sc} {nm} {n},nr G m x sc nm n=true→Fx T S lv F sc nm n m x
variable {T S lv F G}
theorem XC:PS T S lv F G .stop:=fun _=>⟨fun {A env ae hs ps st s f af} X hx=>ba hx⟩
variable (X:CX w aa K T G) (C:jl w aa S lv)
include X C
theorem SF(he:e.on (fun _=>false) true=true)(hy:nm.lookup y=some i)(h:bZ G e (.ListComp elt gens scope cp) sc nm n=true)(hs:vP sc y yp.line cp.line scope=true):dA T S lv F sc nm n (.asg i own e) (.Assign [.Name y yp] (.ListComp elt gens scope cp) pos):=by
 revert h
 refine Nc (C:=fun e=>bZ G e (.ListComp elt gens scope cp) sc nm n=true→dA T S lv F sc nm n (.asg i own e) (.Assign [.Name y yp] (.ListComp elt gens scope cp) pos)) he (fun _=>eT) fun k t iter cond Yp _ h=> ?_
 exact Mo X C (gZ X C _) (We X C _) (gZ X C _) (t:=t) (eelt:=elt) (scope:=scope) (p:=cp) (sc:=sc) (nm:=nm) (n:=n) (P:=fun k l=>dA T S lv F sc nm n (.asg i own (.comp k t iter cond Yp)) (.Assign [.Name y yp] (.ListComp elt l scope cp) pos)) h fun tg it ifs xs du h1 h2 h3 h4 h5 h6 h7=>⟨aln h1 h2.1 h3 h4.1 h5 h6 h7 hy hs⟩
theorem Xp(i:Nat)(own:Bool)(e:ME):PS T S lv F G (.asg i own e):=fun {x sc nm n} h=>td h fun ts v p h=>lh (C:=fun l=>dA T S lv F sc nm n _ (.Assign l v p)) h fun t h=>kg (C:=fun t=>dA T S lv F sc nm n _ (.Assign [t] v p)) h fun y yp h=>eE h fun h1 h2 h0=>by
 have hy:=eq_of_beq h1
 by_cases hv:lK v=true
 ·exact⟨Pj (gZ X C e h2).1 hy fun _=>vQ hv⟩
 ·refine aS ((or_eq_true_iff.mp h0).resolve_right hv) fun h8 h9=> ?_
  revert h2
  refine Expr.ListComp.elim (motive_1:=fun v=>bZ G e v sc nm n=true→dA T S lv F sc nm n (.asg i own e) (.Assign [.Name y yp] v p)) v (eq_of_beq_eq_true h8) fun elt gens scope cp h2=> ?_
  cases hs:vP sc y yp.line cp.line scope with
  |false=>exact⟨Pj (gZ X C e h2).1 hy fun KK=>(Po KK).trans (by rw[hs])⟩
  |true=>exact SF X C h9 hy h2 hs
theorem Xq(rev:Bool)(is:List Nat)(es:aR):PS T S lv F G (.eZ rev is es):=fun {x sc nm n} h=>td h fun ts v p h=>lh (C:=fun l=>dA T S lv F sc nm n _ (.Assign l v p)) h fun t h=>vU (C:=fun t=>dA T S lv F sc nm n _ (.Assign [t] v p)) h fun elts k tp h=>
 vU (C:=fun v=>dA T S lv F sc nm n _ (.Assign [.Tuple elts k tp] v p)) h fun xs kk vp h=>gW h fun h1 h2 h3 h4=>⟨alo ((Wd X C es).s h1).a h2 (bK h3) h4⟩
theorem Xr(is:List Nat)(e:ME):PS T S lv F G (.fK is e):=fun {x sc nm n} h=>td h fun ts v p h=>lh (C:=fun l=>dA T S lv F sc nm n _ (.Assign l v p)) h fun t h=>vU (C:=fun t=>dA T S lv F sc nm n _ (.Assign [t] v p)) h fun elts k tp h=>
 gW h fun h1 h2 h3 h4=>⟨alp (gZ X C e h1).1 h2 h3 h4⟩
theorem XA(i:Nat)(x:Str)(e:ME):PS T S lv F G (.aV i x e):=fun {s sc nm n} h=>td h fun ts v p h=>lh (C:=fun l=>dA T S lv F sc nm n _ (.Assign l v p)) h fun t h=>qg (C:=fun t=>dA T S lv F sc nm n _ (.Assign [t] v p)) h fun y z ap h=>
 kg (C:=fun y=>dA T S lv F sc nm n _ (.Assign [.Attribute y z ap] v p)) h fun y yp h=>gW h fun h1 h2 h3 h4=>gB (C:=fun z=>dA T S lv F sc nm n _ (.Assign [.Attribute (.Name y yp) z ap] v p)) h1 ⟨alw X.U (gZ X C e h4).1 (eq_of_beq h2) (ro h3)⟩
theorem XB(i:Nat)(k e:ME):PS T S lv F G (.fF i k e):=fun {s sc nm n} h=>td h fun ts v p h=>lh (C:=fun l=>dA T S lv F sc nm n _ (.Assign l v p)) h fun t h=>ED (C:=fun t=>dA T S lv F sc nm n _ (.Assign [t] v p)) h fun y xk ap h=>
 kg (C:=fun y=>dA T S lv F sc nm n _ (.Assign [.Subscript y xk ap] v p)) h fun y yp h=>gX h fun h1 h2 h3 h4 h5=>⟨alx (gZ X C k h4).1 (gZ X C e h5).1 (eq_of_beq h1) (ro h2) h3⟩
theorem Xo(i:Nat)(e:ME):PS T S lv F G (.app i e):=fun {s sc nm n} h=>I3 h fun c p h=>qr (C:=fun c=>dA T S lv F sc nm n _ (.Expr c p)) h fun fe vs bX cp h=>qg (C:=fun fe=>dA T S lv F sc nm n _ (.Expr (.Call fe vs bX cp) p)) h fun y m ap h=>
 kg (C:=fun y=>dA T S lv F sc nm n _ (.Expr (.Call (.Attribute y m ap) vs bX cp) p)) h fun y yp h=>lh (C:=fun vs=>dA T S lv F sc nm n _ (.Expr (.Call (.Attribute (.Name y yp) m ap) vs bX cp) p)) h fun v h=>
 gX h fun h1 h2 h3 h4 h=>eE h fun h5 h6 h7=>gB (C:=fun m=>dA T S lv F sc nm n _ (.Expr (.Call (.Attribute (.Name y yp) m ap) [v] bX cp) p)) h1 (jv (C:=fun bX=>dA T S lv F sc nm n _ (.Expr (.Call (.Attribute (.Name y yp) "append" ap) [v] bX cp) p)) h6
  ⟨alm (gZ X C e h7).1 (eq_of_beq h2) (ro h3) h4 h5⟩)
theorem Xv(e:ME):PS T S lv F G (.drop e):=fun {s sc nm n} h=>I3 h fun c p h=>aS h fun h1 h2=>⟨alq (gZ X C e h2).1 h1⟩
theorem Xz(e:ME):PS T S lv F G (.ret e):=fun {s sc nm n} h=>ajg h fun v p h=>by
 cases v with
 |some v=>exact⟨alu (gZ X C e h).1⟩
 |none=>exact Nc (C:=fun e=>dA T S lv F sc nm n (.ret e) (.Return none p)) h (fun d h=>AV.none.elim (motive_1:=fun d=>dA T S lv F sc nm n (.ret (.con d)) (.Return none p)) d (eq_of_beq_eq_true h) ⟨alv⟩) fun _ _ _ _ _=>eT
theorem Xx(c:ME)(a b:ai)(ia:mc T S lv F G a)(ib:mc T S lv F G b):PS T S lv F G (.iff c a b):=fun {s sc nm n} h=>ace h fun ec ea eb p h=>eE h fun h1 h2 h3=>⟨als (gZ X C c h1).2 (ia h2).s (ib h3).s⟩
theorem XD(c:ME)(b:ai)(ib:mc T S lv F G b):PS T S lv F G (.gw c b):=fun {s sc nm n} h=>amC h fun ec eb es p h=>eE h fun h1 h2 h3=>jv (C:=fun es=>dA T S lv F sc nm n _ (.While ec eb es p)) h1 ⟨aly (gZ X C c h2).2 (ib h3).s⟩
theorem Xw(t:eO)(e:ME)(b:ai)(ib:mc T S lv F G b):PS T S lv F G (.bz t e b):=fun {s sc nm n} h=>aax h fun tg iter eb es p h=>gX h fun h1 h2 h3 h4 h5=>jv (C:=fun es=>dA T S lv F sc nm n _ (.For tg iter eb es p)) h1 ⟨alr (gZ X C e h2).1 h3 (ib h4).s h5⟩
omit X C in
theorem Xy:mc T S lv F G .nil:=fun {s sc nm n} h=>jv (C:=fun s=>Fx T S lv F sc nm n .nil s) h ⟨alA⟩
omit X C in
theorem Xu(a:MS)(r:ai)(ia:PS T S lv F G a)(ir:mc T S lv F G r):mc T S lv F G (.cons a r):=fun {s sc nm n} h=>jW h fun x xs h=>aS h fun h1 h2=>⟨alz (ia h1).s (ir h2).s⟩
theorem Wf(m:ai):mc T S lv F G m:=ai.rec (motive_1:=PS T S lv F G) (motive_2:=mc T S lv F G)
 (Xp X C) (Xq X C) (Xr X C) (XA X C) (XB X C) (Xo X C) (Xv X C) (Xz X C) (Xx X C) (XD X C) (Xw X C) XC Xy Xu m
end
end
section
section
noncomputable def yq(v:Value)(f:Addr→Bool):Bool:=if h:v.ctorIdx=10 then Value.ref.elim (motive:=fun _=>Bool) v h f else false
theorem En{v f}{C:Value→Prop}(h:yq v f=true)(k:∀a,f a=true→C (.ref a)):C v:=cK (f:=fun h=>Value.ref.elim (motive:=fun _=>Bool) v h f) h fun h=>Value.ref.elim (motive:=fun v=>∀h,Value.ref.elim (motive:=fun _=>Bool) v h f=true→C v) v h (fun a _=>k a) h
noncomputable def Dq(d:Data)(f:Array Value→Nat→Bool):Bool:=if h:d.ctorIdx=2 then Data.seq.elim (motive:=fun _=>Bool) d h f else false
theorem OW{d f}{C:Data→Prop}(h:Dq d f=true)(k:∀a n,f a n=true→C (.seq a n)):C d:=cK (f:=fun h=>Data.seq.elim (motive:=fun _=>Bool) d h f) h fun h=>Data.seq.elim (motive:=fun v=>∀h,Data.seq.elim (motive:=fun _=>Bool) v h f=true→C v) d h (fun a n _=>k a n) h
noncomputable def L7(d:Data)(f:FuncData→Bool):Bool:=if h:d.ctorIdx=7 then Data.func.elim (motive:=fun _=>Bool) d h f else false
theorem aaN{d f}{C:Data→Prop}(h:L7 d f=true)(k:∀a,f a=true→C (.func a)):C d:=cK (f:=fun h=>Data.func.elim (motive:=fun _=>Bool) d h f) h fun h=>Data.func.elim (motive:=fun v=>∀h,Data.func.elim (motive:=fun _=>Bool) v h f=true→C v) d h (fun a _=>k a) h
noncomputable def L5(d:Data)(f:Array Value→Bool):Bool:=if h:d.ctorIdx=9 then Data.fields.elim (motive:=fun _=>Bool) d h f else false
theorem Z7{d f}{C:Data→Prop}(h:L5 d f=true)(k:∀a,f a=true→C (.fields a)):C d:=cK (f:=fun h=>Data.fields.elim (motive:=fun _=>Bool) d h f) h fun h=>Data.fields.elim (motive:=fun v=>∀h,Data.fields.elim (motive:=fun _=>Bool) v h f=true→C v) d h (fun a _=>k a) h
noncomputable def Ds(v:Value)(f:Str→Tok→Bool):Bool:=if h:v.ctorIdx=6 then Value.str.elim (motive:=fun _=>Bool) v h f else false
theorem Pl{v f}{C:Value→Prop}(h:Ds v f=true)(k:∀a t,f a t=true→C (.str a t)):C v:=cK (f:=fun h=>Value.str.elim (motive:=fun _=>Bool) v h f) h fun h=>Value.str.elim (motive:=fun v=>∀h,Value.str.elim (motive:=fun _=>Bool) v h f=true→C v) v h (fun a t _=>k a t) h
end
noncomputable def AQ(f:Value→AV→Bool):List Value→List AV→Bool
 |[]=>fun l=>l.isEmpty
 |v::vs=>fun l=>kc l fun d ds=>f v d&&AQ f vs ds
def Lz(o:Obj)(f:List Value→Bool):Bool:=Dq o.data fun a _=>o.cls==.type "tuple"&&o.dict.isNone&&o.slots.isEmpty&&decide (a.size≤16777216)&&f a.toList
noncomputable def vY(g:Addr→Option Obj):Nat→Value→AV→Bool
 |0=>fun _ _=>false
 |n+1=>fun v d=>AV.casesOn (motive_1:=fun _=>Bool) d (beq v.ctorIdx 0) (fun x=>if h:v.ctorIdx=3 then Value.bool.elim (motive:=fun _=>Bool) v h fun y=>y==x else false)
  (fun x=>if h:v.ctorIdx=4 then Value.int.elim (motive:=fun _=>Bool) v h fun y _=>y==x else false) (fun _=>false)
  (fun x=>if h:v.ctorIdx=7 then Value.bytes.elim (motive:=fun _=>Bool) v h fun y _=>y.toList==x&&decide (x.length≤16777216)else false)
  (fun l=>yq v fun a=>gM (g a) fun o=>Lz o fun vs=>AQ (vY g n) vs l) (fun _=>false) (fun _=>false) (fun _ _=>false) (fun _ _ _=>false) (fun _=>false) (fun _=>false)
def Iz(g:Addr→Option Obj)(v:Value)(l:List AV):Bool:=(beq v.ctorIdx 0&&l.isEmpty)||yq v fun a=>gM (g a) fun o=>Dq o.data fun vs _=>AQ (vY g 3) vs.toList l
def Io(g:Addr→Option Obj)(v:Value)(q:Str):Bool:=yq v fun a=>gM (g a) fun o=>L5 o.data fun vs=>gM (vs[1]? :Option Value) fun v=>Ds v fun x _=>x==q
noncomputable def yN:List Str→Bool
 |[]=>true
 |x::r=> !r.contains x&&yN r
noncomputable def adW(sc:Scope)(x:Str):Bool:=sc.names.lookup x==some .local||sc.names.lookup x==some .cell
def xv(g:Addr→Option Obj)(G:Str→Option GV)(f:Addr)(d:FD)(names:List Str):Bool:=gM (g f) fun o=>L7 o.data fun fd=>
 (FuncBody.casesOn (motive:=fun _=>Bool) fd.body (fun body=>nr G d.body body fd.scope (n9 names) d.ns) fun _=>false)&&(Io g fd.code fd.qualname&&fd.closure.isEmpty&&fd.globals==mainGlobals&&fd.builtins==builtinsNs&&(fd.scope.kind==.function&& !fd.scope.isCoroutine&& !fd.scope.isGenerator&&decide (d.np≤d.ns)&&
   (decide (names.length=d.ns)&&yN names&&D8 fd.params (names.take d.np)&&decide (d.dflt.length≤d.np)&&(Iz g fd.defaults d.dflt&&names.all (adW fd.scope)))))
section
variable {g:Addr→Option Obj} (hg:∀a o,g a=some o→aa.get? a=some o)
theorem Fd(hf:∀v d,f v d=true→RV w aa (fun _=>False) v d):∀(vs:List Value) {l},AQ f vs l=true→au w aa (fun _=>False) vs l
 |[],l,h=>jv (C:=fun l=>au w aa _ [] l) h .nil
 |v::vs,l,h=>jW (C:=fun l=>au w aa _ (v::vs) l) h fun d ds h=>aS h fun h1 h2=>.cons (hf v d h1) (Fd hf vs h2)
theorem aco{o:Obj}{f:List Value→Bool}{P:Prop}(h:Lz o f=true)(k:∀vs n,vs.length≤16777216→o=⟨.type "tuple",none,.seq vs.toArray n,#[]⟩→f vs=true→P):P:=by
 cases o with
 |mk c dd d sl=>
  exact OW (C:=fun d=>(∀vs n,vs.length≤16777216→(⟨c,dd,d,sl⟩:Obj)=⟨.type "tuple",none,.seq vs.toArray n,#[]⟩→f vs=true→P)→P) h (fun a n h k=>gX h fun h1 h2 h3 h4 h5=>
   k a.toList n (by rw[length_toList];exact bK h4) (by rw[show c=_ from eq_of_beq h1,show dd=_ from isNone_iff_eq_none.mp h2,show sl=_ from Array.isEmpty_iff.mp h3,toArray_toList]) h5) k
theorem xE{a:Addr}{f:Obj→Bool}{P:Prop}(hg:∀a o,g a=some o→aa.get? a=some o)(h:gM (g a) f=true)(k:∀o,aa.get? a=some o→f o=true→P):P:=oy (D:=fun o=>g a=o→P) h (fun o h e=>k o (hg a o e) h) rfl
theorem bk.UQ(h:a.toList=b)(n:b.length≤16777216):RV w aa O (.bytes a t) (.bytes b):=by
 subst h
 have:=bk.bytes (w:=w) (h:=aa) (O:=O) a.toList t n
 rwa [toArray_toList]at this
include hg in
theorem PI:∀(n:Nat) (v:Value) (d:AV),vY g n v d=true→RV w aa (fun _=>False) v d:=fun n=>Nat.rec (motive:=fun n=>∀(v:Value) (d:AV),vY g n v d=true→RV w aa (fun _=>False) v d) (fun _ _ h=>noConfusion h) (fun n ih v d=>by
 cases d with
 |none=>exact fun h=>Value.none.elim (motive:=fun v=>RV w aa (fun _=>False) v .none) v (eq_of_beq_eq_true h) .none
 |bool x=>exact fun h=>cK (f:=fun h=>Value.bool.elim (motive:=fun _=>Bool) v h fun y=>y==x) h fun h=>Value.bool.elim (motive:=fun v=>∀h,Value.bool.elim (motive:=fun _=>Bool) v h (fun y=>y==x)=true→RV w aa (fun _=>False) v (.bool x)) v h (fun y _ h=>eq_of_beq h▸.bool y) h
 |int x=>exact fun h=>cK (f:=fun h=>Value.int.elim (motive:=fun _=>Bool) v h fun y _=>y==x) h fun h=>Value.int.elim (motive:=fun v=>∀h,Value.int.elim (motive:=fun _=>Bool) v h (fun y _=>y==x)=true→RV w aa (fun _=>False) v (.int x)) v h (fun y t _ h=>eq_of_beq h▸.int y t) h
 |bytes x=>exact fun h=>cK (f:=fun h=>Value.bytes.elim (motive:=fun _=>Bool) v h fun y _=>y.toList==x&&decide (x.length≤16777216)) h fun h=>Value.bytes.elim (motive:=fun v=>∀h,Value.bytes.elim (motive:=fun _=>Bool) v h (fun y _=>y.toList==x&&decide (x.length≤16777216))=true→RV w aa (fun _=>False) v (.bytes x)) v h (fun y t _ h=>aS h fun h1 h2=>bk.UQ (eq_of_beq h1) (bK h2)) h
 |tup l=>exact fun h=>En (C:=fun v=>RV w aa (fun _=>False) v (.tup l)) h fun a h=>xE hg h fun o ho h=>aco h fun vs n hn e h=>.tup (fun q=>q) ⟨hn,n,ho.trans (congrArg some e)⟩ (Fd ih vs h)
 |_=>exact fun h=>noConfusion h) n
theorem Nr:∀{l:List Str},yN l=true→l.Nodup
 |[],_=>.nil
 |x::r,h=>by
  replace h:(!r.contains x&&yN r)=true:=h
  rw[and_eq_true,not_eq_true']at h
  refine nodup_cons.mpr ⟨fun q=> ?_,Nr h.2⟩
  rw[List.contains_iff_mem.mpr q]at h
  cases h.1
theorem Br:∀{l:List (Str×NameKind)} {n} {acc:List (Str×Addr)},(acc.lookup x).isSome=true∨l.lookup x=some .cell→((cellsFrom n l acc).lookup x).isSome=true
 |[],n,acc,h=>by
  rcases h with h|h
  ·exact h
  ·cases h
 |(y,k)::r,n,acc,h=>by
  have base:∀m,(acc.lookup x).isSome=true→(((y,m)::acc).lookup x).isSome=true:=fun m q=>by
   rw[lookup_cons];split
   ·rfl
   ·exact q
  unfold cellsFrom
  cases hk:k==NameKind.cell with
  |true=>
   refine Br ?_
   rcases h with h|h
   ·exact .inl (base _ h)
   ·rw[lookup_cons]at h
    split at h
    ·rename_i q;left;rw[lookup_cons,q];rfl
    ·exact .inr h
  |false=>
   refine Br ?_
   rcases h with h|h
   ·exact .inl h
   ·rw[lookup_cons]at h
    split at h
    ·cases h;cases hk
    ·exact .inr h
include hg in
theorem XM{v:Value}{l:List AV}(h:Iz g v l=true):v=.none∧l=[]∨∃Tp o n ds,v=.ref Tp∧aa.get? Tp=some o∧o.data=.seq (toArray ds) n∧au w aa (fun _=>False) ds l:=
 Or.elim (or_eq_true_iff.mp h) (fun h=>aS h fun h1 h2=>.inl ⟨Value.none.elim (motive:=fun v=>v=.none) v (eq_of_beq_eq_true h1) rfl,emp h2⟩)
  fun h=>.inr (En (C:=fun v=>∃Tp o n ds,v=.ref Tp∧aa.get? Tp=some o∧o.data=.seq (toArray ds) n∧au w aa (fun _=>False) ds l) h fun a h=>xE hg h fun o ho h=>
   OW (C:=fun d=>o.data=d→∃Tp o n ds,Value.ref a=.ref Tp∧aa.get? Tp=some o∧o.data=.seq (toArray ds) n∧au w aa (fun _=>False) ds l) h (fun vs n h e=>⟨a,o,n,vs.toList,rfl,ho,e,Fd (PI hg 3) _ h⟩) rfl)
include hg in
theorem WE{v:Value}{q:Str}(h:Io g v q=true):aa.CodeRec v q:=
 En (C:=fun v=>aa.CodeRec v q) h fun a h=>xE hg h fun o ho h=>Z7 (C:=fun d=>o.data=d→aa.CodeRec (.ref a) q) h (fun vs h e=>oy (D:=fun z=>vs[1]? =z→aa.CodeRec (.ref a) q) h (fun z h hz=>
  Pl (C:=fun z=>vs[1]? =some z→aa.CodeRec (.ref a) q) h (fun x t h hz=>⟨a,o,vs,t,rfl,ho,e,hz.trans (by rw[eq_of_beq h])⟩) hz) rfl) rfl
include hg in
theorem aab{K:Frag}{T:Tab}{G:Str→Option GV}{f:Addr}{names:List Str}{F:Nat}(X:CX w aa K T G)(h:xv g G f d names=true):
  ∃fd body names,jR w aa f fd body d names∧∀S lv,jl w aa S lv→iz w aa T S lv F fd.scope (n9 names) d.ns d.body body:=
 xE hg h fun o ho h=>aaN (C:=fun q=>o.data=q→∃fd body names,jR w aa f fd body d names∧∀S lv,jl w aa S lv→iz w aa T S lv F fd.scope (n9 names) d.ns d.body body) h (fun fd h e=>aS h fun hb h=>gX h fun h1 h2 h3 h4 h=>gX h fun h5 h6 h7 h8 h=>gX h fun h9 qT nK KN h=>aS h fun h13 h14=>
  FuncBody.casesOn (motive:=fun b=>fd.body=b→FuncBody.casesOn (motive:=fun _=>Bool) b (fun body=>nr G d.body body fd.scope (n9 names) d.ns) (fun _=>false)=true→∃fd body names,jR w aa f fd body d names∧∀S lv,jl w aa S lv→iz w aa T S lv F fd.scope (n9 names) d.ns d.body body) fd.body
   (fun body abj hb=>⟨fd,body,names,{obj:=⟨o,ho,e⟩,code:=WE hg h1,body:=abj,ed:=emp h2,glob:=eq_of_beq h3,Hr:=eq_of_beq h4,kind:=eq_of_beq h5,co:=not_of h6,gen:=not_of h7,np:=bK h8,len:=bK h9,nodup:=Nr qT,plain:=nK,Iy:=bK KN,IB:=XM hg h13,kinds:=fun x hx=>(or_eq_true_iff.mp (all_eq_true.mp h14 x hx)).imp eq_of_beq fun q=>⟨eq_of_beq q,fun n=>Br (.inr (eq_of_beq q))⟩},fun S lv C=>(Wf X C d.body hb).s⟩)
   (fun _ _ q=>noConfusion q) rfl hb) rfl
end
end
section
noncomputable def gT(t:BT)(n:Nat)(a:Addr):Option Obj:=match Nat.blt a n with
 |true=>match t.get a with
  |some o=>alive o
  |none=>none
 |false=>none
def gF(P:Params)(a:Addr):Option Obj:=gT (sy P) 1226 a
noncomputable def Wi:List Addr:=[171,170,192,191,337,336,363,362,468,467,524,523,599,598,714,713,770,769,849,848,944,943,989,988,1045,1044,1069,1068,1173,1172]
noncomputable def aaa:List Addr:=[72,79,86,93,100,107,114,121,128,133,147,154,161,168,189,203,210,217,224,231,238,245,315,327,334,353,360,374,379,386,405,412,417,424,429,436,443,458,479,486,493,500,514,521,535,542,549,557,572,579,586,596,610,615,627,634,641,648,655,662,669,683,690,697,704,711,725,732,739,744,760,781,788,795,802,816,823,830,846,860,867,874,879,884,891,898,906,913,927,934,941,953,960,965,979,986,1000,1005,1012,1028,1035,1042,1066,1080,1086,1093,1107,1114,1121,1128,1135,1142,1149,1156,1163,1184,1191,1198,1205,1210,1215,1220,1225]
def KF(P:Params):Frag:=(Wi++aaa).filterMap fun a=>(gF P a).map fun o=>(a,o)
noncomputable def Lp:List Nat→Nat→Nat
 |[],n=>n
 |c::r,n=>Lp r ((n*3+c)%64)
def Co:List (List (Str×GV)):=
 [[(u6,.va (.int 32))],
  [(Al,.fn 429),(zA,.fn 655),(zq,.fn 1220)],
  [(zZ,.fn 379),(zH,.fn 1000),(zx,.fn 1086),(⟨#[97,98,115]⟩,.bi .abs)],
  [(uT,.va (.int 1))],
  [(zp,.va (.int 64))],
  [(vg,.fn 315),(zJ,.fn 860),(yY,.fn 192),(⟨#[114,97,110,103,101]⟩,.bi .range)],
  [(uV,.va (.int 16)),(zm,.va (.int 8))],
  [(y3,.fn 1173),(zd,.va (.int 8))],
  [(Am,.fn 417),(Ao,.fn 486)],
  [(zR,.fn 479)],
  [(pF,.fn 1045),(u7,.va (.int 4))],
  [(vb,.fn 1215)],
  [],
  [(Ab,.fn 884),(zl,.fn 1069),(u3,.va (.int 16))],
  [(pI,.fn 114)],
  [],
  [(zt,.fn 1184)],
  [],
  [(pJ,.fn 557),(lU,.fn 634),(zV,.fn 669)],
  [(y7,.va (.int 54))],
  [(ji,.fn 79),(zO,.fn 203),(vt,.fn 732),(zz,.fn 906)],
  [(Ak,.fn 443),(zB,.fn 610),(uR,.va (.int 1594834165))],
  [(Ad,.fn 224),(zL,.fn 386),(Aa,.fn 662),(Ap,.fn 1012)],
  [(zE,.fn 874),(zT,.fn 1005)],
  [(Ai,.fn 627),(uN,.va (.int 12)),(uS,.va (.int 255))],
  [(Ae,.fn 133),(Ah,.fn 960)],
  [(zN,.fn 493),(pG,.va (.int 2)),(⟨#[100,105,99,116]⟩,.bi .dict)],
  [(lT,.fn 107),(Aj,.fn 1080)],
  [],
  [(z0,.fn 781),(uZ,.va (.int 1))],
  [],
  [(z6,.fn 744),(Au,.fn 965),(uQ,.fn 524),(uU,.va (.int 8))],
  [],
  [(zP,.fn 739),(zo,.fn 337),(za,.va (.int 2981146554)),(rR,.va (.int 32)),(⟨#[111,114,100]⟩,.bi .ord)],
  [(⟨#[108,105,115,116]⟩,.bi .list)],
  [(rS,.fn 770)],
  [(aP,.fn 93),(uX,.va (.int 65536)),(mQ,.va (.int 16384))],
  [(zj,.va (.tup [(.int 0),(.int 0),(.int 0),(.int 0)])),(⟨#[99,104,114]⟩,.bi .chr)],
  [(cV,.fn 72),(eY,.fn 100),(⟨#[108,97,119]⟩,.fn 1225),(y4,.fn 849),(rQ,.va (.int 65535))],
  [(zW,.fn 374),(zG,.fn 412),(zg,.va (.int 16384))],
  [(jk,.fn 86),(zk,.fn 714)],
  [(vm,.fn 641),(y6,.fn 363),(⟨#[108,101,110]⟩,.bi .len)],
  [(z8,.fn 405),(u9,.fn 1205),(yZ,.va (.int 128))],
  [(zI,.fn 615),(An,.fn 913),(lj,.fn 1191),(zh,.fn 944)],
  [(ve,.fn 879),(uO,.fn 468)],
  [(vn,.fn 217),(Av,.fn 245),(y9,.va (.int 16))],
  [(uY,.va (.int 4294967296))],
  [(⟨#[105,110,116]⟩,.bi .int)],
  [(yX,.va (.tup [(.tup [(.int 3),(.int 10)]),(.tup [(.int 0),(.int 4)]),(.tup [(.int 0),(.int 3)]),(.tup [(.int 3),(.int 1)]),(.tup [(.int 0),(.int 1)]),(.tup [(.int 0),(.int 0)]),(.tup [(.int 3),(.int 0)]),(.tup [(.int 1),(.int 0)])])),(⟨#[109,97,120]⟩,.bi .max)],
  [(z9,.fn 891),(uW,.fn 171),(u5,.va (.int 2))],
  [(zQ,.fn 725)],
  [(Aq,.fn 542),(zY,.fn 802)],
  [(Af,.fn 128)],
  [(zv,.fn 648),(rW,.fn 1093),(y8,.va (.int 256)),(⟨#[115,111,114,116,101,100]⟩,.bi .sorted)],
  [(z7,.fn 210),(zU,.fn 535),(jf,.fn 1198)],
  [(vy,.fn 121),(vw,.fn 788),(rT,.va (.int 8))],
  [],
  [],
  [(vd,.fn 867),(zu,.fn 898),(zX,.fn 953),(uP,.fn 989)],
  [(zD,.fn 424),(⟨#[98,121,116,101,115]⟩,.bi .bytes)],
  [(Ar,.fn 436),(As,.fn 500)],
  [(zK,.fn 795)],
  [(zC,.fn 238),(zy,.fn 549),(vc,.fn 1210),(pH,.fn 599),(⟨#[109,105,110]⟩,.bi .min)],
  [(Ac,.fn 231)]]
def GT(x:Str):Option GV:=match Co[Lp x.cps.toList 0]? with
 |some l=>l.lookup x
 |none=>none
theorem aaO(h:gT t n a=some o):(absHeap t n {}).get? a=some o:=by
 unfold gT at h
 split at h<;>try cases h
 rename_i q
 split at h<;>try cases h
 rename_i e
 rw[abs_get (le_of_ble_eq_true q) e]
 exact h
theorem Kz(h:gF w.params a=some o):(hF w.params).get? a=some o:=aaO h
end
section
abbrev cq(P:Params)(i:Nat):Prop:=((o9.drop i).take 4).all (fun r=>xv (gF P) GT r.1 r.2.1 r.2.2)=true
theorem VH(P):cq P 0:=by kernel_rfl
theorem VW(P):cq P 4:=by kernel_rfl
theorem V7(P):cq P 8:=by kernel_rfl
theorem VN(P):cq P 12:=by kernel_rfl
theorem VQ(P):cq P 16:=by kernel_rfl
theorem VR(P):cq P 20:=by kernel_rfl
theorem VS(P):cq P 24:=by kernel_rfl
theorem VT(P):cq P 28:=by kernel_rfl
theorem VU(P):cq P 32:=by kernel_rfl
theorem VV(P):cq P 36:=by kernel_rfl
theorem VX(P):cq P 40:=by kernel_rfl
theorem VY(P):cq P 44:=by kernel_rfl
theorem VZ(P):cq P 48:=by kernel_rfl
theorem V0(P):cq P 52:=by kernel_rfl
theorem V1(P):cq P 56:=by kernel_rfl
theorem V2(P):cq P 60:=by kernel_rfl
theorem V3(P):cq P 64:=by kernel_rfl
theorem V4(P):cq P 68:=by kernel_rfl
theorem V5(P):cq P 72:=by kernel_rfl
theorem V6(P):cq P 76:=by kernel_rfl
theorem V8(P):cq P 80:=by kernel_rfl
theorem V9(P):cq P 84:=by kernel_rfl
theorem Wa(P):cq P 88:=by kernel_rfl
theorem Wb(P):cq P 92:=by kernel_rfl
theorem Wc(P):cq P 96:=by kernel_rfl
theorem VI(P):cq P 100:=by kernel_rfl
theorem VJ(P):cq P 104:=by kernel_rfl
theorem VK(P):cq P 108:=by kernel_rfl
theorem VL(P):cq P 112:=by kernel_rfl
theorem VM(P):cq P 116:=by kernel_rfl
theorem VP(P):cq P 120:=by kernel_rfl
end
section
noncomputable def L4(d:Data)(f:Array DictEntry→Nat→Bool):Bool:=if h:d.ctorIdx=3 then Data.dict.elim (motive:=fun _=>Bool) d h f else false
theorem XN{d f}{C:Data→Prop}(h:L4 d f=true)(k:∀a n,f a n=true→C (.dict a n)):C d:=cK (f:=fun h=>Data.dict.elim (motive:=fun _=>Bool) d h f) h fun h=>Data.dict.elim (motive:=fun v=>∀h,Data.dict.elim (motive:=fun _=>Bool) v h f=true→C v) d h (fun a n _=>k a n) h
noncomputable def BJ(d:Data):List DictEntry:=if h:d.ctorIdx=3 then Data.dict.elim (motive:=fun _=>List DictEntry) d h fun es _=>es.toList else []
def iG(g:Addr→Option Obj)(a:Addr):List DictEntry:=casesOn (motive:=fun _=>List DictEntry) (g a) [] fun o=>BJ o.data
def gj(g:Addr→Option Obj)(a:Addr):Bool:=gM (g a) fun o=>L4 o.data fun es _=>es.toList.all fun e=>Ds e.key fun _ _=>true
noncomputable def iF(es:List DictEntry)(x:Str):Option Value:=(es.find? fun e=>e.key.isStr x).map (·.val)
def Cs(g:Addr→Option Obj)(K:Frag)(es eb:List DictEntry)(r:Str×GV):Bool:=GV.casesOn (motive:=fun _=>Bool) r.2 (fun f=>iF es r.1==some (.ref f)&&keepIn K (.ref f))
 (fun b=>gM (oU b) (fun p=>p.1==r.1&&iF eb r.1==some p.2)&&(iF es r.1).isNone) (fun d=>gM (iF es r.1) fun v=>vY g 3 v d)
section
variable {g:Addr→Option Obj} (hg:∀a o,g a=some o→aa.get? a=some o)
include hg
theorem rA{a:Addr}(h:gj g a=true):aa.Ns a (iF (iG g a)):=
 oy (D:=fun q=>g a=q→aa.Ns a (iF (casesOn (motive:=fun _=>List DictEntry) q [] fun o=>BJ o.data))) h (fun o h e=>XN (C:=fun d=>o.data=d→aa.Ns a (iF (BJ d))) h (fun es n h e2=>
  ⟨o,es,n,hg _ _ e,e2,fun x hx=>Pl (C:=fun k=>∃n t,k=.str n t) (all_eq_true.mp h x (Array.mem_toList_iff.mpr hx)) fun y t _=>⟨y,t,rfl⟩,fun x=>by
   show Option.map _ (es.find? _)=Option.map _ (es.toList.find? _)
   rw[Array.find?_toList]⟩) rfl) rfl
theorem aa3{K:Frag}(h1:gj g mainGlobals=true)(h2:gj g builtinsNs=true)(h:Cs g K (iG g mainGlobals) (iG g builtinsNs) r=true):sL w aa K r.1 r.2:=by
 cases r with
 |mk x v=>cases v with
  |fn f=>exact aS h fun h3 h4=>⟨⟨_,rA hg h1,eq_of_beq h3⟩,h4⟩
  |bi b=>exact aS h fun h3 h4=>oy (D:=fun q=>oU b=q→sL w aa K x (.bi b)) h3 (fun p h3 e=>aS h3 fun h5 h6=>⟨p.2,by rw[e,show x=p.1 from(eq_of_beq h5).symm],_,_,rA hg h1,isNone_iff_eq_none.mp h4,rA hg h2,eq_of_beq h6⟩) rfl
  |va d=>exact oy (D:=fun q=>iF (iG g mainGlobals) x=q→sL w aa K x (.va d)) h (fun v h e=>⟨_,v,rA hg h1,e,PI hg 3 v d h⟩) rfl
end
theorem DC{g:Addr→Option Obj}:∀{l:List Addr} {a:Addr} {o},(l.filterMap fun a=>(g a).map fun o=>(a,o)).lookup a=some o→g a=some o
 |[],_,_,h=>by cases h
 |b::r,a,o,h=>by
  rw[List.filterMap_cons]at h
  cases hb:g b with
  |none=>rw[hb]at h;exact DC h
  |some q=>
   rw[hb]at h
   change List.lookup a ((b,q)::_)=_ at h
   rw[lookup_cons]at h
   split at h
   ·rename_i e;rw[beq_iff_eq]at e;subst e;cases h;exact hb
   ·exact DC h
theorem mem_of_lookup[BEq α][LawfulBEq α]:∀{l:List (α×β)} {a} {b},l.lookup a=some b→(a,b)∈l
 |[],_,_,h=>by cases h
 |(x,y)::r,a,b,h=>by
  rw[lookup_cons]at h
  split at h
  ·rename_i e;rw[beq_iff_eq]at e;subst e;cases h;exact .head _
  ·exact .tail _ (mem_of_lookup h)
theorem Fq:(KF w.params).In aa:=fun _ _ h=>Kz (DC h)
theorem AO(P):(gj (gF P) mainGlobals&&gj (gF P) builtinsNs&&gj (gF P) cStatics&&(iF (iG (gF P) cStatics) "sys.recursionlimit").isNone&&(gF P sysModules).isSome)=true:=by kernel_rfl
theorem ami(P):Co.all (fun l=>l.all (Cs (gF P) (KF P) (iG (gF P) mainGlobals) (iG (gF P) builtinsNs)))=true:=by kernel_rfl
theorem amh(P):findCls (KF P) (.type "int") (.type "type") (Str.ofString "from_bytes")=some (.get (.builtin "classmethod_descriptor.__get__") (.builtin "int.from_bytes") .none (.type "int")):=by kernel_rfl
theorem amg(P):wA.all (fun r=>r.2.all fun x=>tf (KF P) r.1 x)=true:=by kernel_rfl
theorem amk(P):yL.all (fun r=>r.2.all fun x=>yK (KF P) r.1 x.1 x.2)=true:=by kernel_rfl
theorem amj(P):ya.all (fun r=>makesIn (KF P) r.1&&findIn (KF P) (.ref r.1) "__init__"==some (some (.ref r.2))&&typeIn (KF P) (.ref r.2)==some (.type "function"))=true:=by kernel_rfl
section
variable {g:Addr→Option Obj} {K:Frag} (hg:∀a o,g a=some o→aa.get? a=some o)
theorem rz(h:(gj g mainGlobals&&gj g builtinsNs&&gj g cStatics&&(iF (iG g cStatics) "sys.recursionlimit").isNone&&(g sysModules).isSome)=true):
  gj g mainGlobals=true∧gj g builtinsNs=true∧gj g cStatics=true∧iF (iG g cStatics) "sys.recursionlimit"=none∧∃o,g sysModules=some o:=by
 simp only[and_eq_true,isNone_iff_eq_none,isSome_iff_exists]at h
 exact⟨h.1.1.1.1,h.1.1.1.2,h.1.1.2,h.1.2,h.2⟩
include hg in
theorem Pd(h:∃o,g a=some o):(aa.get? a).isSome=true:=by
 obtain⟨o,ho⟩:=h
 rw[hg a o ho];rfl
include hg in
set_option tactic.hygienic true in
theorem Xi(hK:K.In aa)(h1:(gj g mainGlobals&&gj g builtinsNs&&gj g cStatics&&(iF (iG g cStatics) "sys.recursionlimit").isNone&&(g sysModules).isSome)=true)
  (h2:Co.all (fun l=>l.all (Cs g K (iG g mainGlobals) (iG g builtinsNs)))=true)
  (h3:findCls K (.type "int") (.type "type") (Str.ofString "from_bytes")=some (.get (.builtin "classmethod_descriptor.__get__") (.builtin "int.from_bytes") .none (.type "int")))
  (h4:wA.all (fun r=>r.2.all fun x=>tf K r.1 x)=true) (h5:yL.all (fun r=>r.2.all fun x=>yK K r.1 x.1 x.2)=true):CX w aa K ag.T GT where
 U:=
  {X:=hK
   nf:=fun c x h=>by
    have h:(wA.lookup c).any (·.contains x)=true:=h
    rw[Option.any_eq_true]at h
    obtain⟨l,hl,hx⟩:=h
    exact all_eq_true.mp (all_eq_true.mp h4 _ (mem_of_lookup hl)) x (List.contains_iff_mem.mp hx)
   uF:=fun c x f h=>by
    have h:(yL.lookup c).bind (·.lookup x)=some f:=h
    obtain⟨l,hl,hx⟩:=Option.bind_eq_some_iff.mp h
    exact all_eq_true.mp (all_eq_true.mp h5 _ (mem_of_lookup hl)) _ (mem_of_lookup hx)
   sm:=Pd hg (rz h1).2.2.2.2}
 g:=fun x v h=>by
  have t:=rz h1
  unfold GT at h
  split at h<;>try cases h
  rename_i l hl
  exact aa3 hg (r:=(x,v)) t.1 t.2.1 (all_eq_true.mp (all_eq_true.mp h2 l (mem_of_getElem? hl)) _ (mem_of_lookup h))
 fb:=h3
include hg in
theorem aeH(h1:(gj g mainGlobals&&gj g builtinsNs&&gj g cStatics&&(iF (iG g cStatics) "sys.recursionlimit").isNone&&(g sysModules).isSome)=true):aa.NoLimit:=⟨_,rA hg (rz h1).2.2.1,(rz h1).2.2.2.1⟩
theorem acf(h:ya.all (fun r=>makesIn K r.1&&findIn K (.ref r.1) "__init__"==some (some (.ref r.2))&&typeIn K (.ref r.2)==some (.type "function"))=true):we K ag:=fun C i hi=>by
 have:=all_eq_true.mp h _ (mem_of_lookup (show ya.lookup C=some i from hi))
 simp only[and_eq_true,beq_iff_eq]at this
 exact⟨this.1.1,this.1.2,this.2⟩
end
theorem tY:∀a o,gF w.params a=some o→aa.get? a=some o:=fun _ _=>Kz
theorem Xj:CX w aa (KF w.params) ag.T GT:=Xi tY Fq (AO _) (ami _) (amh _) (amg _) (amk _)
theorem aeI:aa.NoLimit:=aeH tY (AO _)
theorem acg:we (KF w.params) ag:=acf (amj _)
theorem ald:(aa.get? sysModules).isSome=true:=Pd tY (rz (AO _)).2.2.2.2
end
section
theorem dn{α:Type}{l:List α}{p:α→Bool}{i:Nat}(h:((l.drop i).take 4).all p=true)(r:(l.drop (i+4)).all p=true):(l.drop i).all p=true:=by
 rw[←take_append_drop 4 (l.drop i),List.all_append,h,drop_drop,r];rfl
theorem aac:o9.drop 124=[]:=by kernel_rfl
theorem Ys:(o9.drop 124).all p=true:=by rw[aac];rfl
theorem aaf(P:Params):(o9.drop 0).all (fun r=>xv (gF P) GT r.1 r.2.1 r.2.2)=true:=
 dn (VH P)<|dn (VW P)<|dn (V7 P)<|dn (VN P)<|dn (VQ P)<|dn (VR P)<|dn (VS P)<|dn (VT P)<|dn (VU P)<|dn (VV P)<|dn (VX P)<|dn (VY P)<|dn (VZ P)<|dn (V0 P)<|dn (V1 P)<|dn (V2 P)<|dn (V3 P)<|dn (V4 P)<|dn (V5 P)<|dn (V6 P)<|dn (V8 P)<|dn (V9 P)<|dn (Wa P)<|dn (Wb P)<|dn (Wc P)<|dn (VI P)<|dn (VJ P)<|dn (VK P)<|dn (VL P)<|dn (VM P)<|dn (VP P) Ys
theorem aag{g:Addr→Option Obj}{K:Frag}(hg:∀a o,g a=some o→aa.get? a=some o)(X:CX w aa K ag.T GT)(h:(o9.drop 0).all (fun r=>xv g GT r.1 r.2.1 r.2.2)=true)(F:Nat):A1 w aa ag F:=fun f d hd=>by
 obtain⟨r,hr,rfl⟩:=map_eq_some_iff.mp (show(o9.lookup f).map (·.1)=some d from hd)
 exact aab hg X (all_eq_true.mp h _ (mem_of_lookup hr))
theorem ag6(F n:Nat):pZ w aa (dW ag F n) n:=ag4 Fq ald aeI (aag tY Xj (aaf _) F) acg n
end
section
theorem ajv:Rm callerA 12:=⟨rfl,by decide+kernel,by decide+kernel⟩
theorem aeq(P):iF (iG (gF P) mainGlobals) dL.name=some (.ref 1225):=by kernel_rfl
def WC(P:Params)(h:Heap)(v:Value):WData→Prop
 |.int i=>∃t,v=.int i t
 |.list xs=>∃a vs,v=.ref a∧h.get? a=some {cls:=.type "list",data:=.seq vs.toArray}∧WellAll P h vs xs
 |_=>True
theorem PK{P:Params}{h:Heap}{v:Value}{d:WData}(x:Well P h v d):WC P h v d:=by
 cases x with
 |int i t=>exact⟨t,rfl⟩
 |list e1 e2=>exact⟨_,_,rfl,e1,e2⟩
 |_=>exact True.intro
theorem amG{R:WRecords}{P:Params}{h:Heap}:∀{xs:List WData} {vs:List Value},WellAll P h vs xs→WShape.hasItems R xs .int=true→∃l:List Int,vs.length=l.length∧xs.length=l.length∧∀w O,au w h O vs (l.map .int):=by
 intro xs
 induction xs with
 |nil=>
  intro vs a _
  cases vs with
  |nil=>exact⟨[],rfl,rfl,fun _ _=>rfl⟩
  |cons=>exact(nomatch a)
 |cons d xs ih=>
  intro vs a g
  refine(wellAll_cons_inv a).elim fun v z=>z.elim fun lx z=> ?_
  refine(hasW_int (hasItemsW_at g d (.head _))).elim fun i e=>(show WC P h v (.int i)from e▸PK z.2.1).elim fun t et=> ?_
  simp only[WShape.hasItems,and_eq_true]at g
  exact(ih z.2.2 g.2).elim fun l y=>⟨i::l,z.1▸congrArg (· +1) y.1,congrArg (· +1) y.2.1,fun w O=>z.1▸et▸bW.cons (kG.mk _) (y.2.2 w O)⟩
theorem ahR(h:WTm.holds R (.and (.not (.lt (.lit (.int 63)) (.len (.arg 0)))) (.lit (.bool true))) {args:=.list xs::as}=true):xs.length≤63:=by
 by_cases z:xs.length≤63
 ·exact z
 ·exfalso
  have e0:WTm.value R (.lt (.lit (.int 63)) (.len (.arg 0))) {args:=.list xs::as}=some (.bool true):=by
   have q:WTm.value R (.lt (.lit (.int 63)) (.len (.arg 0))) {args:=.list xs::as}=(less? (.int 63) (.int xs.length)).map .bool:=rfl
   rw[q]
   have q2:PySem.W.less? (.int 63) (.int (xs.length:Int))=some (decide ((63:Int)<xs.length)):=by unfold PySem.W.less? Num.less?;rfl
   rw[q2,decide_eq_true (by omega)];rfl
  have e1:WTm.value R (.not (.lt (.lit (.int 63)) (.len (.arg 0)))) {args:=.list xs::as}=some (.bool false):=by
   unfold WTm.value;rw[e0];rfl
  have e2:WTm.value R (.and (.not (.lt (.lit (.int 63)) (.len (.arg 0)))) (.lit (.bool true))) {args:=.list xs::as}=some (.bool false):=by
   unfold WTm.value;rw[e1]
  unfold WTm.holds at h
  rw[e2]at h
  cases h
theorem acA{P:Params}{h:Heap}{args:List WData}{vals:List Value}{C:List Value→List WData→Prop}(C1:lw.row.toRowW.claim.pre args=true)(hw:WellAll P h vals args)
  (k:∀aL vs xs (l:List Int),l.length≤63→LstAt h aL vs→(∀w O,au w h O vs (l.map .int))→C [.ref aL] [.list xs]):C vals args:=by
 obtain⟨h1,h2⟩:=pre_splitW C1
 have h1:WShape.hasAll lw.row.toRowW.records args [.list .int]=true:=h1
 obtain⟨d,r,rfl,h3,h4⟩:=hasAllW_cons h1
 cases hasAllW_nil h4
 obtain⟨xs,rfl,h5⟩:=hasW_list h3
 have h6:=ahR h2
 refine(wellAll_cons_inv hw).elim fun v z=>z.elim fun lx z=>(show WC P h v (.list xs)from PK z.2.1).elim fun aL y=>y.elim fun vs y=> ?_
 have e:lx=[]:=by cases z.2.2;rfl
 rw[z.1,e,y.1]
 refine(amG y.2.2 h5).elim fun l z=>k aL vs xs l (z.2.1▸h6) ⟨?_,_,y.2.1⟩ z.2.2
 rw[z.1,←z.2.1];exact le_trans h6 (by decide)
theorem aeo{mg:Str→Option Value}{bV:Shared}{a:Addr}(y:∀b o,aa.get? b=some o→bV.heap.get? b=some o)(g:bV.heap.Ns mainGlobals mg)(hn:mg dL.name=some (.ref a)):a=1225:=by
 have e1:aa.Ns mainGlobals (iF (iG (gF w.params) mainGlobals)):=rA tY (rz (AO _)).1
 rw[←Heap.Ns.agree (e1.keeps y) g,aeq]at hn
 cases hn;rfl
theorem acB{cl:Str→Option Addr}{afQ:ExcName→Option Value}{xs:List WData}{bV s':Shared}(k:Kp bV s')(CC:bV.gens=#[]):GoodWG lw.row.toRowW.claim cl afQ [.list xs] bV (.ok (.ret (.bool true))) s':=by
 refine⟨.inl ⟨_,_,_,rfl,fun _=>rfl,.bool true,by kernel_rfl,fun _=>⟨.nil,fun _ h=>nomatch h⟩⟩,.of_keep k.keep,?_,?_⟩
 ·exact k.elim fun h' k=>k.elim fun tk k=>k.1▸rfl
 ·exact k.elim fun h' k=>k.elim fun tk k=>k.1▸.of_eq CC
theorem join(pure:∀l:List Int,l.length≤63→∃F,dW ag F 12 1225 none [.lst (l.map .int)]=some (.val (.bool true),none)):PySem.Challenge.rw_nu0040_01.Holds:=by
 refine head (Sl fun w1 sx bV mg mb G y a o pm cd doc dV kV ho hd hcr hdf hn CC args vals as C1 an6 hrd abY aob=> ?_)
 cases y.1
 cases aeo y.2 G.T.g hn
 refine acA (C:=fun vals args=>wpAny (model lw.row.toRowW.prog w) callerA (call (.ref 1225) vals) (fun v s'=>GoodWG lw.row.toRowW.claim (classAt sx.heap) (ExcName.means sx.heap) args bV (.ok (.ret v)) s') (fun e s'=>GoodWG lw.row.toRowW.claim (classAt sx.heap) (ExcName.means sx.heap) args bV (.error e) s') bV) C1 abY fun aL vs xs l hl hx z=> ?_
 have st:jo aa (fun _=>False) bV:=⟨y.2,fun _ q=>q.elim,fun _ q=>q.elim⟩
 refine(pure l hl).elim fun F hF=>wpAny_mono ((Ip (ag6 F 12)).one hF ajv st (bW.cons (bk.lst (fun q=>q) hx (z w _)) rfl)) (fun v s' q=> ?_) (fun e s' q=>q.elim)
 rw[show v=.bool true from q.r]
 exact acB q.k CC
end
end
namespace U
section
open PySem PySem.W
section
variable (S:cf)
abbrev KR(β:Type):=Res→St→Option β
abbrev M1(β:Type):=(Res→St→Option β)→St→Option β
structure LK (β:Type) where
 s:(List AV→St→Option β)→St→Option β
 r:(List Res→St→Option β)→St→Option β
 t:Bool→(Bool→St→Option β)→St→Option β
 d:List (AV×AV)→(List (AV×AV)→St→Option β)→St→Option β
 dk:M1 β→List (AV×AV)→(List (AV×AV)→St→Option β)→St→Option β
 a:(List (Option AV)→St→Option β)→St→Option β
structure OK (β:Type) where
 o:(Option Int→St→Option β)→St→Option β
 p:(Bool→St→Option β)→St→Option β
noncomputable def aZ{α:Type}(f:α→Option β)(x:Option α):Option β:=Option.rec (motive:=fun _=>Option β) none f x
noncomputable def cn{α:Type}(f:α→St→Option β)(x:Option (α×St)):Option β:=Option.rec (motive:=fun _=>Option β) none (fun p=>f p.1 p.2) x
noncomputable def AH(x y:Option β)(b:Bool):Option β:=Bool.rec (motive:=fun _=>Option β) y x b
noncomputable def jX(x:Option β)(b:Bool):Option β:=Bool.rec (motive:=fun _=>Option β) none x b
def bG(k:AV→St→Option β)(r:Res)(st:St):Option β:=cn k (freeze st r)
def dH(k:Bool→St→Option β)(r:Res)(st:St):Option β:=cn k (Dt r st)
def dG(k:Int→St→Option β)(r:Res)(st:St):Option β:=cn k (Dn r st)
noncomputable def fU(k:KR β)(st:St)(d:AV):Option β:=k (lL d) st
noncomputable def vX(k:KR β)(st:St)(d:AV):Option β:=k (.val d) st
noncomputable def tC(k:KR β)(st:St)(d:Bool):Option β:=k (.val (.bool d)) st
def wR(o:BO)(k:KR β)(st:St)(x y:AV):Option β:=aZ (fU k st) (fZ o x y)
def Bi(o:BO)(k:KR β)(rb:Res)(st:St)(x:AV):Option β:=aZ (wR o k st x) (look st (bJ rb))
def tj(o:BO)(ra:Res)(k:KR β)(rb:Res)(st:St):Option β:=aZ (Bi o k rb st) (look st ra)
def ql(o:BO)(b:M1 β)(k:KR β)(ra:Res)(st:St):Option β:=b (tj o (bJ ra) k) st
def w7(o:CO)(k:KR β)(st:St)(x y:AV):Option β:=aZ (tC k st) (bh o x y)
def Bu(o:CO)(k:KR β)(rb:Res)(st:St)(x:AV):Option β:=aZ (w7 o k st x) (look st (bJ rb))
def gb(o:CO)(ra:Res)(k:KR β)(rb:Res)(st:St):Option β:=aZ (Bu o k rb st) (look st ra)
def qu(o:CO)(b:M1 β)(k:KR β)(ra:Res)(st:St):Option β:=b (gb o (bJ ra) k) st
noncomputable def rq(k:KR β)(i:Int)(st:St):Option β:=k (.val (.int (-i))) st
noncomputable def ru(k:KR β)(b:Bool)(st:St):Option β:=k (.val (.bool (!b))) st
noncomputable def qp(k:KR β)(b:Bool)(st:St):Option β:=k (.val (.bool b)) st
def wZ(p:CO)(y:Int)(k:KR β)(z:Int)(st:St):Option β:=aZ (tC k st) (bh p (.int y) (.int z))
def w5(p:CO)(c:M1 β)(y:Int)(k:KR β)(st:St)(d:Bool):Option β:=AH (c (dG (wZ p y k)) st) (k (.val (.bool false)) st) d
def wY(o p:CO)(c:M1 β)(x:Int)(k:KR β)(y:Int)(st:St):Option β:=aZ (w5 p c y k st) (bh o (.int x) (.int y))
def qt(o p:CO)(b c:M1 β)(k:KR β)(x:Int)(st:St):Option β:=b (dG (wY o p c x k)) st
def jD(a b:St→Option β)(d:Bool)(st:St):Option β:=AH (a st) (b st) d
noncomputable def tupK(k:KR β)(l:List AV)(st:St):Option β:=k (.val (.tup l)) st
noncomputable def lstK(k:KR β)(l:List AV)(st:St):Option β:=k (.fresh (.lst l)) st
noncomputable def qC(k:KR β)(l:List (AV×AV))(st:St):Option β:=k (.fresh (.aq l)) st
def Ba(x:Str)(k:KR β)(st:St)(d:AV):Option β:=aZ (vX k st) (aQ ag.T d x)
def qf(x:Str)(k:KR β)(r:Res)(st:St):Option β:=aZ (Ba x k st) (look st (bJ r))
def AG(k:KR β)(st:St)(x y:AV):Option β:=aZ (vX k st) (bt x y)
def EC(k:KR β)(ri:Res)(st:St)(x:AV):Option β:=aZ (AG k st x) (look st (bJ ri))
def vO(r:Res)(k:KR β)(ri:Res)(st:St):Option β:=aZ (EC k ri st) (look st r)
def sk(i:M1 β)(k:KR β)(r:Res)(st:St):Option β:=i (vO (bJ r) k) st
def Ey(l h:Option Int)(k:KR β)(st:St)(d:AV):Option β:=aZ (fU k st) (lY d l h)
def AE(r:Res)(l:Option Int)(k:KR β)(h:Option Int)(st:St):Option β:=aZ (Ey l h k st) (look st r)
def AD(hi:OK β)(r:Res)(k:KR β)(l:Option Int)(st:St):Option β:=hi.o (AE r l k) st
def si(lo hi:OK β)(k:KR β)(r:Res)(st:St):Option β:=lo.o (AD hi (bJ r) k) st
noncomputable def Bz(n:Nat)(k:KR β)(acc:List AV)(st:St):Option β:=k (.fresh (.lst acc)) (st.take n)
def By(c:Nat)(t:eO)(cond:MO)(elt:ME)(n:Nat)(k:KR β)(st:St)(l:List AV):Option β:=cn (Bz n k) (dS (gL t (fL ag.T S cond) (ev ag.T S elt)) l [] (st++replicate c .no))
def qx(c:Nat)(t:eO)(cond:MO)(elt:ME)(n:Nat)(k:KR β)(d:AV)(st:St):Option β:=aZ (By S c t cond elt n k st) (gJ d)
noncomputable def rsO(k:KR β)(st:St)(r:Res)(o:Option AC):Option β:=Option.rec (motive:=fun _=>Option β) (Res.rec (motive:=fun _=>Option β) (fun d=>k (.val d) st) (fun c=>k (.fresh c) st) (fun _=>none) r) (fun _=>none) o
def rsP(k:KR β)(st:St)(p:Res×Option AC):Option β:=rsO k st p.1 p.2
def vA(k:KR β)(st:St)(x:Option (Res×Option AC)):Option β:=Option.rec (motive:=fun _=>Option β) none (rsP k st) x
def ni(f:Addr)(k:KR β)(vs:List AV)(st:St):Option β:=vA k st (S f none vs)
def Az(i:Nat)(k:KR β)(st:St)(x:Option (Res×Option AC)):Option β:=cn k (kM i st x)
def Bq(f:Addr)(i:Nat)(k:KR β)(vs:List AV)(st:St)(s:Slot):Option β:=eV s fun c=>Az i k st (S f (some c) vs)
def oY(f:Addr)(i:Nat)(k:KR β)(vs:List AV)(st:St):Option β:=Bq S f i k vs st (st.get i)
def tD(l:LK β)(f:Addr)(i:Nat)(k:KR β)(st:St)(s:Slot):Option β:=eV s fun _=>l.s (oY S f i k) st
def uD(f:Addr)(r:Res)(k:KR β)(vs:List AV)(st:St):Option β:=match r with
 |.val d=>ni S f k (d::vs) st
 |.loc i=>oY S f i k vs st
 |.fresh _=>none
def DE(l:LK β)(r:Res)(k:KR β)(st:St)(f:Addr):Option β:=l.s (uD S f r k) st
def DF(x:Str)(l:LK β)(r:Res)(k:KR β)(st:St)(d:AV):Option β:=aZ (DE S l r k st) (bw ag.T d x)
def rg(x:Str)(l:LK β)(k:KR β)(r:Res)(st:St):Option β:=aZ (DF S x l (bJ r) k st) (look st (bJ r))
def Bn(b:BI)(k:KR β)(st:St)(ds:List AV):Option β:=aZ (fU k st) (aW b ds)
def qn(b:BI)(k:KR β)(rs:List Res)(st:St):Option β:=aZ (Bn b k st) (jc st rs)
def Bp(b:BI)(k:KR β)(st:St)(d:AV)(ds:List AV):Option β:=aZ (fU k st) (aW b (d::ds))
def Bo(b:BI)(k:KR β)(rs:List Res)(st:St)(d:AV):Option β:=aZ (Bp b k st d) (jc st rs)
def tm(b:BI)(r:Res)(k:KR β)(rs:List Res)(st:St):Option β:=aZ (Bo b k rs st) (look st r)
def wU(b:BI)(l:LK β)(r:Res)(k:KR β)(st:St)(x:AV):Option β:=jX (l.r (tm b r k) st) (wV b x)
def qo(b:BI)(l:LK β)(k:KR β)(r:Res)(st:St):Option β:=aZ (wU b l (bJ r) k st) (look st (bJ r))
noncomputable def xq(d:AV)(k:List AV→St→Option β)(ds:List AV)(st:St):Option β:=k (d::ds) st
def qM(r:(List AV→St→Option β)→St→Option β)(k:List AV→St→Option β)(d:AV)(st:St):Option β:=r (xq d k) st
noncomputable def xp(d:Res)(k:List Res→St→Option β)(ds:List Res)(st:St):Option β:=k (d::ds) st
def qL(r:(List Res→St→Option β)→St→Option β)(k:List Res→St→Option β)(d:Res)(st:St):Option β:=r (xp (bJ d) k) st
def jw(c:Bool)(r:(Bool→St→Option β)→St→Option β)(k:Bool→St→Option β)(b:Bool)(st:St):Option β:=AH (r k st) (k b st) (b==c)
def xo(r:List (AV×AV)→(List (AV×AV)→St→Option β)→St→Option β)(acc:List (AV×AV))(x:Int)(k:List (AV×AV)→St→Option β)(y:AV)(st:St):Option β:=jX (r (dh acc (.int x) y) k st) (c9 acc (.int x))
def qJ(v:M1 β)(r:List (AV×AV)→(List (AV×AV)→St→Option β)→St→Option β)(acc:List (AV×AV))(k:List (AV×AV)→St→Option β)(x:Int)(st:St):Option β:=v (bG (xo r acc x k)) st
noncomputable def mr(d:Option AV)(k:List (Option AV)→St→Option β)(ds:List (Option AV))(st:St):Option β:=k (d::ds) st
def qI(r:(List (Option AV)→St→Option β)→St→Option β)(k:List (Option AV)→St→Option β)(d:AV)(st:St):Option β:=r (mr (some d) k) st
noncomputable def qK(k:Option Int→St→Option β)(i:Int)(st:St):Option β:=k (some i) st
noncomputable def pW(i:Nat)(k:KR β)(st:St)(s:Slot):Option β:=match s with
 |.no=>none
 |.val d=>k (.val d) st
 |.own _=>k (.loc i) st
def BR{γ:Sort _}(go:(ME→M1 β)→(aR→LK β)→(MO→OK β)→γ):γ:=go
  (ME.rec (motive_1:=fun _=>M1 β) (motive_2:=fun _=>LK β) (motive_3:=fun _=>OK β)
 (fun i k st=>pW i k st (st.get i)) (fun _ d k st=>k (.val d) st) (fun d k st=>k (.val d) st) (fun o _ _ a b k=>a (ql o b k)) (fun _ a k=>a (dG (rq k))) (fun _ a k=>a (dH (ru k))) (fun o _ _ a b k=>a (qu o b k)) (fun o p _ _ _ a b c k=>a (dG (qt o p b c k)))
 (fun c _ l k=>l.t c (qp k)) (fun _ _ _ c a b k=>c (dH (jD (a k) (b k)))) (fun _ l k=>l.s (tupK k)) (fun _ l k=>l.s (lstK k)) (fun _ l k=>l.d [] (qC k)) (fun _ x e k=>e (qf x k)) (fun _ _ a b k=>a (sk b k)) (fun _ _ _ a lo hi k=>a (si lo hi k))
 (fun c t _ cond elt it _ _ k st=>it (bG (qx S c t cond elt st.length k)) st) (fun _ f _ l k=>l.s (ni S f k)) (fun _ f i _ l k st=>tD S l f i k st (st.get i)) (fun _ x _ o l k=>o (rg S x l k)) (fun b _ l k=>l.r (qn b k)) (fun b _ _ o l k=>o (qo b l k))
 ⟨fun k=>k [],fun k=>k [],fun c k=>k c,fun acc k=>k acc,fun _ _ _ _=>none,fun k=>k []⟩ (fun _ _ e r=>⟨fun k=>e (bG (qM r.s k)),fun k=>e (qL r.r k),fun c k=>e (dH (jw c (r.t c) k)),r.dk e,fun ek acc k=>ek (dG (qJ e r.d acc k)),fun k=>e (bG (qI r.a k))⟩)
 (fun _ r=>⟨fun _ _=>none,fun _ _=>none,fun _ _ _=>none,fun _ _ _=>none,fun _ _ _ _=>none,fun k=>r.a (mr none k)⟩) ⟨fun k=>k none,fun k=>k true⟩ (fun _ e=>⟨fun k=>e (dG (qK k)),fun k=>e (dH k)⟩))
  (aR.rec (motive_1:=fun _=>M1 β) (motive_2:=fun _=>LK β) (motive_3:=fun _=>OK β)
 (fun i k st=>pW i k st (st.get i)) (fun _ d k st=>k (.val d) st) (fun d k st=>k (.val d) st) (fun o _ _ a b k=>a (ql o b k)) (fun _ a k=>a (dG (rq k))) (fun _ a k=>a (dH (ru k))) (fun o _ _ a b k=>a (qu o b k)) (fun o p _ _ _ a b c k=>a (dG (qt o p b c k)))
 (fun c _ l k=>l.t c (qp k)) (fun _ _ _ c a b k=>c (dH (jD (a k) (b k)))) (fun _ l k=>l.s (tupK k)) (fun _ l k=>l.s (lstK k)) (fun _ l k=>l.d [] (qC k)) (fun _ x e k=>e (qf x k)) (fun _ _ a b k=>a (sk b k)) (fun _ _ _ a lo hi k=>a (si lo hi k))
 (fun c t _ cond elt it _ _ k st=>it (bG (qx S c t cond elt st.length k)) st) (fun _ f _ l k=>l.s (ni S f k)) (fun _ f i _ l k st=>tD S l f i k st (st.get i)) (fun _ x _ o l k=>o (rg S x l k)) (fun b _ l k=>l.r (qn b k)) (fun b _ _ o l k=>o (qo b l k))
 ⟨fun k=>k [],fun k=>k [],fun c k=>k c,fun acc k=>k acc,fun _ _ _ _=>none,fun k=>k []⟩ (fun _ _ e r=>⟨fun k=>e (bG (qM r.s k)),fun k=>e (qL r.r k),fun c k=>e (dH (jw c (r.t c) k)),r.dk e,fun ek acc k=>ek (dG (qJ e r.d acc k)),fun k=>e (bG (qI r.a k))⟩)
 (fun _ r=>⟨fun _ _=>none,fun _ _=>none,fun _ _ _=>none,fun _ _ _=>none,fun _ _ _ _=>none,fun k=>r.a (mr none k)⟩) ⟨fun k=>k none,fun k=>k true⟩ (fun _ e=>⟨fun k=>e (dG (qK k)),fun k=>e (dH k)⟩))
  (MO.rec (motive_1:=fun _=>M1 β) (motive_2:=fun _=>LK β) (motive_3:=fun _=>OK β)
 (fun i k st=>pW i k st (st.get i)) (fun _ d k st=>k (.val d) st) (fun d k st=>k (.val d) st) (fun o _ _ a b k=>a (ql o b k)) (fun _ a k=>a (dG (rq k))) (fun _ a k=>a (dH (ru k))) (fun o _ _ a b k=>a (qu o b k)) (fun o p _ _ _ a b c k=>a (dG (qt o p b c k)))
 (fun c _ l k=>l.t c (qp k)) (fun _ _ _ c a b k=>c (dH (jD (a k) (b k)))) (fun _ l k=>l.s (tupK k)) (fun _ l k=>l.s (lstK k)) (fun _ l k=>l.d [] (qC k)) (fun _ x e k=>e (qf x k)) (fun _ _ a b k=>a (sk b k)) (fun _ _ _ a lo hi k=>a (si lo hi k))
 (fun c t _ cond elt it _ _ k st=>it (bG (qx S c t cond elt st.length k)) st) (fun _ f _ l k=>l.s (ni S f k)) (fun _ f i _ l k st=>tD S l f i k st (st.get i)) (fun _ x _ o l k=>o (rg S x l k)) (fun b _ l k=>l.r (qn b k)) (fun b _ _ o l k=>o (qo b l k))
 ⟨fun k=>k [],fun k=>k [],fun c k=>k c,fun acc k=>k acc,fun _ _ _ _=>none,fun k=>k []⟩ (fun _ _ e r=>⟨fun k=>e (bG (qM r.s k)),fun k=>e (qL r.r k),fun c k=>e (dH (jw c (r.t c) k)),r.dk e,fun ek acc k=>ek (dG (qJ e r.d acc k)),fun k=>e (bG (qI r.a k))⟩)
 (fun _ r=>⟨fun _ _=>none,fun _ _=>none,fun _ _ _=>none,fun _ _ _=>none,fun _ _ _ _=>none,fun k=>r.a (mr none k)⟩) ⟨fun k=>k none,fun k=>k true⟩ (fun _ e=>⟨fun k=>e (dG (qK k)),fun k=>e (dH k)⟩))
def aD(e:ME):M1 β:=BR S fun a _ _=>a e
def bQ(e:aR):LK β:=BR S fun _ a _=>a e
def j3(e:MO):OK β:=BR S fun _ _ a=>a e
def tc(i:Nat)(own:Bool)(kn:St→Option β)(r:Res)(st:St):Option β:=aZ kn (put st i own r)
def sZ(is:List Nat)(kn:St→Option β)(d:AV)(st:St):Option β:=aZ kn (lC st (.many is) d)
def sY(rev:Bool)(is:List Nat)(kn:St→Option β)(rs:List (Option AV))(st:St):Option β:=jX (aZ kn (pq rev is rs st)) (ble (dw rs) 1)
def lW(i:Nat)(x:Str)(d:AV)(kn:St→Option β)(st:St)(c:Addr)(fs:List (Str×AV)):Option β:=jX (kn (st.set i (.own (.inst c (nE fs x d))))) (ag.T.nf c x&&ble fs.length 100)
def Eu(i:Nat)(x:Str)(d:AV)(kn:St→Option β)(st:St)(s:Slot):Option β:=eV s fun c=>sW c (lW i x d kn st)
def vF(i:Nat)(x:Str)(kn:St→Option β)(d:AV)(st:St):Option β:=Eu i x d kn st (st.get i)
def ajZ(i:Nat)(d:AV)(kn:St→Option β)(st:St)(k:AV)(c:AC):Option β:=AC.casesOn (motive:=fun _=>Option β) c (fun l=>bD k fun n=>aZ (fun j=>kn (st.set i (.own (.lst (l.set j d))))) (idx l.length n))
 (fun l=>jX (kn (st.set i (.own (.aq (dh l k d))))) (c9 l k&&decide (l.length<1000000))) fun _ _=>none
def vG(i:Nat)(d:AV)(kn:St→Option β)(st:St)(k:AV)(s:Slot):Option β:=eV s (ajZ i d kn st k)
def AB(i:Nat)(d:AV)(kn:St→Option β)(k:AV)(st:St):Option β:=vG i d kn st k (st.get i)
def Ew(i:Nat)(ek:M1 β)(d:AV)(kn:St→Option β)(st:St)(s:Slot):Option β:=eV s fun _=>ek (bG (AB i d kn)) st
def vH(i:Nat)(ek:M1 β)(kn:St→Option β)(d:AV)(st:St):Option β:=Ew i ek d kn st (st.get i)
def A9(i:Nat)(d:AV)(kn:St→Option β)(st:St)(s:Slot):Option β:=eV s fun c=>oP c fun l=>jX (kn (st.set i (.own (.lst (l++[d]))))) (decide (l.length<lim))
def wx(i:Nat)(kn:St→Option β)(d:AV)(st:St):Option β:=A9 i d kn st (st.get i)
def wu(i:Nat)(e:M1 β)(kn:St→Option β)(st:St)(s:Slot):Option β:=eV s fun c=>oP c fun _=>e (bG (wx i kn)) st
def tI(kn:St→Option β)(r:Res)(st:St):Option β:=Res.casesOn (motive:=fun _=>Option β) r (fun d=>kQ d fun _=>kn st) (fun _=>none) fun _=>none
noncomputable def gE(kn:St→Option β)(kr:KR β)(f:br)(st:St):Option β:=match f with
 |.next=>kn st
 |.ret r=>kr r st
def Ci(t:eO)(b:ai)(kn:St→Option β)(kr:KR β)(st:St)(l:List AV):Option β:=cn (gE kn kr) (cG (eG t (bj ag.T S 1000 b)) l st)
def tW(t:eO)(b:ai)(kn:St→Option β)(kr:KR β)(d:AV)(st:St):Option β:=aZ (Ci S t b kn kr st) (gJ d)
abbrev N1(β:Type):=(St→Option β)→KR β→St→Option β
def I2{γ:Sort _}(go:(MS→N1 β)→(ai→N1 β)→γ):γ:=go
  (MS.rec (motive_1:=fun _=>N1 β) (motive_2:=fun _=>N1 β)
 (fun i own e kn _=>aD S e (tc i own kn)) (fun rev is es kn _=>(bQ S es).a (sY rev is kn)) (fun is e kn _=>aD S e (bG (sZ is kn))) (fun i x e kn _=>aD S e (bG (vF i x kn))) (fun i k e kn _=>aD S e (bG (vH i (aD S k) kn))) (fun i e kn _ st=>wu i (aD S e) kn st (st.get i)) (fun e kn _=>aD S e (tI kn)) (fun e _ kr=>aD S e kr)
 (fun c _ _ a b kn kr=>aD S c (dH (jD (a kn kr) (b kn kr)))) (fun c b _ kn kr st=>cn (gE kn kr) (gS (iJ (ev ag.T S c)) (bj ag.T S 1000 b) 1000 st)) (fun t e b _ kn kr=>aD S e (bG (tW S t b kn kr))) (fun _ _ _=>none) (fun kn _=>kn) (fun _ _ x r kn kr=>x (r kn kr) kr))
  (ai.rec (motive_1:=fun _=>N1 β) (motive_2:=fun _=>N1 β)
 (fun i own e kn _=>aD S e (tc i own kn)) (fun rev is es kn _=>(bQ S es).a (sY rev is kn)) (fun is e kn _=>aD S e (bG (sZ is kn))) (fun i x e kn _=>aD S e (bG (vF i x kn))) (fun i k e kn _=>aD S e (bG (vH i (aD S k) kn))) (fun i e kn _ st=>wu i (aD S e) kn st (st.get i)) (fun e kn _=>aD S e (tI kn)) (fun e _ kr=>aD S e kr)
 (fun c _ _ a b kn kr=>aD S c (dH (jD (a kn kr) (b kn kr)))) (fun c b _ kn kr st=>cn (gE kn kr) (gS (iJ (ev ag.T S c)) (bj ag.T S 1000 b) 1000 st)) (fun t e b _ kn kr=>aD S e (bG (tW S t b kn kr))) (fun _ _ _=>none) (fun kn _=>kn) (fun _ _ x r kn kr=>x (r kn kr) kr))
def i7(x:MS):N1 β:=I2 S fun a _=>a x
def jx(x:ai):N1 β:=I2 S fun _ a=>a x
end
section
theorem fq(e:∀a st,h a st=ak (f a st) g):ak x h=ak (ak x f) g:=by
 cases x with
 |none=>rfl
 |some p=>exact e p.1 p.2
theorem oT:cn g x=ak x g:=by
 cases x<;>rfl
theorem wO(e:∀a st,h a st=ak (f a st) g):cn h x=ak (ak x f) g:=by
 cases x with
 |none=>rfl
 |some p=>exact e p.1 p.2
theorem dC(e:∀a,h a=ak (f a) g):aZ h x=ak (aw x f) g:=by
 cases x with
 |none=>rfl
 |some p=>exact e p
theorem qw(e:h=ak f g):jX h b=ak (aJ b f) g:=by
 cases b with
 |false=>rfl
 |true=>exact e
theorem AI(e:h=ak f g)(e':h'=ak f' g):AH h h' b=ak (sw b f f') g:=by
 cases b with
 |false=>exact e'
 |true=>exact e
theorem pz(e:∀a,h a=ak (f a) g):eV s h=ak (eV s f) g:=by
 cases s with
 |own c=>exact e c
 |_=>rfl
theorem FC(e:∀a,h a=ak (f a) g):oP s h=ak (oP s f) g:=by
 cases s with
 |lst c=>exact e c
 |_=>rfl
theorem Sf(e:∀a b,h a b=ak (f a b) g):sW s h=ak (sW s f) g:=by
 cases s with
 |inst c d=>exact e c d
 |_=>rfl
theorem aaR(e:∀a,h a=ak (f a) g):bD d h=ak (bD d f) g:=by
 cases d with
 |int i=>exact e i
 |_=>rfl
theorem aaU(e:∀a,h a=ak (f a) g):kQ d h=ak (kQ d f) g:=by
 cases d with
 |bytes i=>exact e i
 |_=>rfl
theorem kL(e:∀r st,h r st=ak (f (bJ r) st) g):ak x h=ak (ak (ju x) f) g:=by
 cases x with
 |none=>rfl
 |some p=>exact e p.1 p.2
theorem kP(e:∀r st,h r st=ak (f r st) g):ak x (bG h)=ak (ak (iH x) f) g:=by
 cases x with
 |none=>rfl
 |some p=>exact wO (x:=freeze p.2 p.1) e
theorem vT(e:∀r st,h r st=ak (f r st) g):ak x (dH h)=ak (ak (eK x) f) g:=by
 cases x with
 |none=>rfl
 |some p=>exact wO (x:=Dt p.1 p.2) e
theorem q3(e:∀r st,h r st=ak (f r st) g):ak x (dG h)=ak (ak (mI x) f) g:=by
 cases x with
 |none=>rfl
 |some p=>exact wO (x:=Dn p.1 p.2) e
end
section
def E1(S:cf)(e:ME):Prop:=∀(β:Type) (k:KR β) (st),aD S e k st=ak (ev ag.T S e st) k
structure EL (S:cf) (l:aR):Prop where
 s:∀(β:Type) (k:List AV→St→Option β) (st:St),(bQ S l).s k st=ak (mu ag.T S l st) k
 r:∀(β:Type) (k:List Res→St→Option β) (st:St),(bQ S l).r k st=ak (tN ag.T S l st) k
 t:∀(c:Bool) (β:Type) (k:Bool→St→Option β) (st:St),(bQ S l).t c k st=ak (tO ag.T S c l st) k
 d:∀(acc:List (AV×AV)) (β:Type) (k:List (AV×AV)→St→Option β) (st),(bQ S l).d acc k st=ak (tK ag.T S l acc st) k
 dk:∀e,E1 S e→∀(acc) (β:Type) (k:List (AV×AV)→St→Option β) (st:St),(bQ S l).dk (aD S e) acc k st=ak (tK ag.T S (.cons e l) acc st) k
 a:∀(β:Type) (k:List (Option AV)→St→Option β) (st:St),(bQ S l).a k st=ak (qH ag.T S l st) k
structure EO (S:cf) (m:MO):Prop where
 o:∀(β:Type) (k:Option Int→St→Option β) (st:St),(j3 S m).o k st=ak (xn ag.T S m st) k
 p:∀(β) (k:Bool→St→Option β) (st:St),(j3 S m).p k st=ak (fL ag.T S m st) k
theorem Qm(i:Nat):E1 S (.var i):=fun β k st=>by
 show pW i k st (st.get i)=ak (yu i st (st.get i)) k
 cases st.get i<;>rfl
theorem PU(o:BO)(a b:ME)(ia:E1 S a)(ib:E1 S b):E1 S (.bin o a b):=fun β k st=>(ia β (ql o (aD S b) k) st).trans (kL fun ra st=>(ib β (tj o (bJ ra) k) st).trans (kL fun rb st=>dC fun x=>dC fun y=>dC fun d=>rfl))
theorem Qf(a:ME)(ia:E1 S a):E1 S (.neg a):=fun β k st=>(ia β (dG (rq k)) st).trans (q3 fun _ _=>rfl)
theorem Qi(a:ME)(ia:E1 S a):E1 S (.nt a):=fun β k st=>(ia β (dH (ru k)) st).trans (vT fun _ _=>rfl)
theorem P7(o:CO)(a b:ME)(ia:E1 S a)(ib:E1 S b):E1 S (.cmp o a b):=fun β k st=>(ia β (qu o (aD S b) k) st).trans (kL fun ra st=>(ib β (gb o (bJ ra) k) st).trans (kL fun rb st=>dC fun x=>dC fun y=>dC fun d=>rfl))
theorem P8(o p:CO)(a b c:ME)(ia:E1 S a)(ib:E1 S b)(ic:E1 S c):E1 S (.gb o p a b c):=fun β k st=>(ia β (dG (qt o p (aD S b) (aD S c) k)) st).trans (q3 fun x st=>(ib β (dG (wY o p (aD S c) x k)) st).trans (q3 fun y st=>dC fun d=>AI ((ic β (dG (wZ p y k)) st).trans (q3 fun z st=>dC fun d=>rfl)) rfl))
theorem PY(c:Bool)(l:aR)(il:EL S l):E1 S (.cv c l):=fun β k st=>(il.t c β (qp k) st).trans (fq fun _ _=>rfl)
theorem Qc(c a b:ME)(ic:E1 S c)(ia:E1 S a)(ib:E1 S b):E1 S (.dj c a b):=fun β k st=>(ic β (dH (jD (aD S a k) (aD S b k))) st).trans (vT fun d st=>AI (ia β k st) (ib β k st))
theorem Ql(l:aR)(il:EL S l):E1 S (.tup l):=fun β k st=>(il.s β (tupK k) st).trans (fq fun _ _=>rfl)
theorem Qd(l:aR)(il:EL S l):E1 S (.lst l):=fun β k st=>(il.s β (lstK k) st).trans (fq fun _ _=>rfl)
theorem Qb(l:aR)(il:EL S l):E1 S (.aq l):=fun β k st=>(il.d [] β (qC k) st).trans (fq fun _ _=>rfl)
theorem PT(e:ME)(x:Str)(ie:E1 S e):E1 S (.attr e x):=fun β k st=>(ie β (qf x k) st).trans (kL fun r st=>dC fun d=>dC fun v=>rfl)
theorem Qk(a b:ME)(ia:E1 S a)(ib:E1 S b):E1 S (.sub a b):=fun β k st=>(ia β (sk (aD S b) k) st).trans (kL fun ra st=>(ib β (vO (bJ ra) k) st).trans (kL fun rb st=>dC fun x=>dC fun y=>dC fun d=>rfl))
theorem Qj(a:ME)(lo hi:MO)(ia:E1 S a)(il:EO S lo)(ih:EO S hi):E1 S (.fW a lo hi):=fun β k st=>(ia β (si (j3 S lo) (j3 S hi) k) st).trans (kL fun ra st=>(il.o β (AD (j3 S hi) (bJ ra) k) st).trans (fq fun l st=>(ih.o β (AE (bJ ra) l k) st).trans (fq fun h st=>dC fun x=>dC fun d=>rfl)))
theorem P9(c:Nat)(t:eO)(it:ME)(cond)(elt:ME)(ii:E1 S it):E1 S (.comp c t it cond elt):=fun β k st=>(ii β (bG (qx S c t cond elt st.length k)) st).trans (kP fun d st=>dC fun l=>wO fun _ _=>rfl)
theorem OB:vA k st x=ak (L1 st x) k:=by
 cases x with
 |none=>rfl
 |some p=>
  cases p with
  |mk r o=>cases o<;>cases r<;>rfl
theorem P0(x:Str)(f:Addr)(l:aR)(il:EL S l):E1 S (.call x f l):=fun β k st=>(il.s β (ni S f k) st).trans (fq fun _ _=>OB)
theorem PZ(vs)(st):oY S f i k vs st=ak (yi S f i vs st) k:=pz fun c=>oT
theorem P6(x:Str)(f:Addr)(i:Nat)(l:aR)(il:EL S l):E1 S (.cz x f i l):=fun β k st=>pz fun _=>(il.s β (oY S f i k) st).trans (fq PZ)
theorem Qe(o:ME)(x:Str)(l:aR)(io:E1 S o)(il:EL S l):E1 S (.aO o x l):=fun β k st=>(io β (rg S x (bQ S l) k) st).trans (kL fun r st=>dC fun d=>dC fun f=>(il.s β (uD S f (bJ r) k) st).trans (fq fun vs st=>by
 cases bJ r with
 |val d=>exact OB
 |fresh c=>rfl
 |loc i=>exact PZ vs st))
theorem PW(b:BI)(l:aR)(il:EL S l):E1 S (.blt b l):=fun β k st=>(il.r β (qn b k) st).trans (fq fun rs st=>dC fun _=>dC fun _=>rfl)
theorem PX(b:BI)(o:ME)(l:aR)(io:E1 S o)(il:EL S l):E1 S (.bm b o l):=fun β k st=>(io β (qo b (bQ S l) k) st).trans (kL fun r st=>dC fun d=>qw ((il.r β (tm b (bJ r) k) st).trans (fq fun rs st=>dC fun _=>dC fun _=>dC fun _=>rfl)))
theorem Qh:EL S .nil:=⟨fun _ _ _=>rfl,fun _ _ _=>rfl,fun _ _ _ _=>rfl,fun _ _ _ _=>rfl,fun _ _ _ _ _ _=>rfl,fun _ _ _=>rfl⟩
theorem Qa(e:ME)(r:aR)(ie:E1 S e)(ir:EL S r):EL S (.cons e r) where
 s:=fun β k st=>(ie β (bG (qM (bQ S r).s k)) st).trans (kP fun d st=>(ir.s β (xq d k) st).trans (fq fun _ _=>rfl))
 r:=fun β k st=>(ie β (qL (bQ S r).r k) st).trans (kL fun d st=>(ir.r β (xp (bJ d) k) st).trans (fq fun _ _=>rfl))
 t:=fun c β k st=>(ie β (dH (jw c ((bQ S r).t c) k)) st).trans (vT fun d st=>AI (ir.t c β k st) rfl)
 d:=fun acc β k st=>ir.dk e ie acc β k st
 dk:=fun e' ie' acc β k st=>(ie' β (dG (qJ (aD S e) (bQ S r).d acc k)) st).trans (q3 fun x st=>(ie β (bG (xo (bQ S r).d acc x k)) st).trans (kP fun y st=>qw (ir.d _ β k st)))
 a:=fun β k st=>(ie β (bG (qI (bQ S r).a k)) st).trans (kP fun d st=>(ir.a β (mr (some d) k) st).trans (fq fun _ _=>rfl))
theorem Qg(r:aR)(ir:EL S r):EL S (.new r):=⟨fun _ _ _=>rfl,fun _ _ _=>rfl,fun _ _ _ _=>rfl,fun _ _ _ _=>rfl,fun _ _ _ _ _ _=>rfl,fun β k st=>(ir.a β (mr none k) st).trans (fq fun _ _=>rfl)⟩
theorem Fg(e:ME)(ie:E1 S e):EO S (.yes e) where
 o:=fun β k st=>(ie β (dG (qK k)) st).trans (q3 fun _ _=>rfl)
 p:=fun β k st=>(ie β (dH k) st).trans (by
  show _=ak (eK (ev ag.T S e st)) k
  cases ev ag.T S e st with
  |none=>rfl
  |some p=>exact oT)
theorem i0(e:ME):E1 S e:=ME.rec (motive_1:=E1 S) (motive_2:=EL S) (motive_3:=EO S) Qm (fun _ _ _ _ _=>rfl) (fun _ _ _ _=>rfl) PU Qf Qi P7 P8 PY Qc Ql Qd Qb PT Qk Qj (fun c t it cond elt ii _ _=>P9 c t it cond elt ii) P0 P6 Qe PW PX Qh Qa Qg ⟨fun _ _ _=>rfl,fun _ _ _=>rfl⟩ Fg e
theorem YM(l:aR):EL S l:=aR.rec (motive_1:=E1 S) (motive_2:=EL S) (motive_3:=EO S) Qm (fun _ _ _ _ _=>rfl) (fun _ _ _ _=>rfl) PU Qf Qi P7 P8 PY Qc Ql Qd Qb PT Qk Qj (fun c t it cond elt ii _ _=>P9 c t it cond elt ii) P0 P6 Qe PW PX Qh Qa Qg ⟨fun _ _ _=>rfl,fun _ _ _=>rfl⟩ Fg l
def E3(S:cf)(x:MS):Prop:=∀(β:Type) (kn:St→Option β) (kr) (st),i7 S x kn kr st=ak (ex ag.T S 1000 x st) (gE kn kr)
def E4(S:cf)(x:ai):Prop:=∀(β:Type) (kn:St→Option β) (kr) (st),jx S x kn kr st=ak (bj ag.T S 1000 x st) (gE kn kr)
theorem I4(x:ai):E4 S x:=ai.rec (motive_1:=E3 S) (motive_2:=E4 S)
 (fun i own e β kn kr st=>(i0 e β (tc i own kn) st).trans (fq fun r st=>dC fun st=>rfl))
 (fun rev is es β kn kr st=>((YM es).a β (sY rev is kn) st).trans (fq fun rs st=>qw (dC fun st=>rfl)))
 (fun is e β kn kr st=>(i0 e β (bG (sZ is kn)) st).trans (kP fun d st=>dC fun st=>rfl))
 (fun i x e β kn kr st=>(i0 e β (bG (vF i x kn)) st).trans (kP fun d st=>pz fun c=>Sf fun c fs=>qw rfl))
 (fun i k e β kn kr st=>(i0 e β (bG (vH i (aD S k) kn)) st).trans (kP fun d st=>pz fun c=>(i0 k β (bG (AB i d kn)) st).trans (kP fun k st=>pz fun c=>by
  cases c with
  |lst l=>exact aaR fun n=>dC fun j=>rfl
  |aq l=>exact qw rfl
  |inst=>rfl)))
 (fun i e β kn kr st=>pz fun c=>FC fun l=>(i0 e β (bG (wx i kn)) st).trans (kP fun d st=>pz fun c=>FC fun l=>qw rfl))
 (fun e β kn kr st=>(i0 e β (tI kn) st).trans (fq fun r st=>by
  cases r with
  |val d=>exact aaU fun _=>rfl
  |_=>rfl))
 (fun e β kn kr st=>(i0 e β kr st).trans (fq fun r st=>rfl))
 (fun c a b ia ib β kn kr st=>(i0 c β (dH (jD (jx S a kn kr) (jx S b kn kr))) st).trans (vT fun d st=>AI (ia β kn kr st) (ib β kn kr st)))
 (fun c b _ β kn kr st=>oT)
 (fun t e b _ β kn kr st=>(i0 e β (bG (tW S t b kn kr)) st).trans (kP fun d st=>dC fun l=>oT))
 (fun _ _ _ _=>rfl) (fun _ _ _ _=>rfl)
 (fun x r ix ir β kn kr st=>(ix β (jx S r kn kr) kr st).trans (fq fun f st=>by
  cases f with
  |next=>exact ir β kn kr st
  |ret r=>rfl)) x
def rC(cin:Option AC)(st:St):Option (Res×Option AC):=out cin (.val .none) st
def lp(cin:Option AC)(r:Res)(st:St):Option (Res×Option AC):=out cin r st
theorem NA:∃o,o=dW ag 1000:=⟨_,rfl⟩
noncomputable def oW:Nat→cf:=Classical.choose NA
theorem yO:oW=dW ag 1000:=Classical.choose_spec NA
theorem oR(h:dW ag 1000 n f c l=x):oW n f c l=x:=by rw[yO];exact h
theorem fM(hd:ag.fn f=some d)(hc:(ag.T.chg f==cin.isSome)=true)(hs:(aw (fill d (jI cin) vs) fun vs=>some (start d.ns cin vs))=some st):oW (n+1) f cin vs=jx (oW n) d.body (rC cin) (lp cin) st:=by
 rw[yO]
 show casesOn (motive:=fun _=>Option (Res×Option AC)) (ag.fn f) _ _=_
 rw[hd]
 show aJ (ag.T.chg f==cin.isSome) (aw (fill d (jI cin) vs) _)=_
 rw[hc]
 refine Eq.trans (?_:_=ak (bj ag.T (dW ag 1000 n) 1000 d.body st) (gE (rC cin) (lp cin))) (I4 d.body _ _ _ _).symm
 revert hs
 cases fill d (jI cin) vs with
 |none=>exact fun h=>Option.noConfusion rfl (heq_of_eq h)
 |some vs=>
  intro hs
  rw[←Option.some.inj hs]
  show ak _ (fin cin)=_
  cases bj ag.T (dW ag 1000 n) 1000 d.body (start d.ns cin vs)with
  |none=>rfl
  |some p=>cases p with|mk f st=>cases f<;>rfl
theorem Wj(h0:ag.fn f=none)(hi:ag.uy f=some i)(h:oW n i (some (.inst f [])) vs=some (.val .none,some c)):oW (n+1) f none vs=some (.fresh c,none):=by
 rw[yO]at h ⊢
 show casesOn (motive:=fun _=>Option (Res×Option AC)) (ag.fn f) _ _=_
 rw[h0]
 show aw (ag.uy f) _=_
 rw[hi]
 show aw (dW ag 1000 n i (some (.inst f [])) vs) _=_
 rw[h];rfl
noncomputable def fN(st:St):Option (br×St):=some (.next,st)
noncomputable def fR(r:Res)(st:St):Option (br×St):=some (.ret r,st)
theorem tB(h:∀a st,f a st=some (a,st)):ak x f=x:=by
 cases x with
 |none=>rfl
 |some p=>exact h p.1 p.2
theorem Y8:bj ag.T S 1000 b st=jx S b fN fR st:=((I4 b _ fN fR st).trans (tB fun f st=>by cases f<;>rfl)).symm
noncomputable def rN(r:Res)(st:St):Option (Res×St):=some (r,st)
end
def yD(d:AV)(o:Option (List AV)):Option (List AV):=aw o fun ds=>some (d::ds)
def Mu(st:St)(rs:List Res)(o:Option AV):Option (List AV):=aw o fun d=>yD d (jc st rs)
def Ky{β:Type}(i:Nat)(k:AV→St→Option β)(st:St)(s:Slot):Option β:=cn k (Dm i st s)
def FQ{β:Type}(rev:Bool)(is:List Nat)(kn:St→Option β)(st:St)(rs:List (Option AV))(b:Bool):Option β:=jX (aZ kn (pq rev is rs st)) b
def Mf(s:Slot):Option (Res×Option AC):=aw (eV s fun c=>some (.fresh c)) fun r=>some (r,none)
def Me(c:AC)(s0 s:Slot):Option (Res×Option AC):=aw (eV s fun c=>some (.fresh c)) fun r=>nY c r s0
theorem YN(m):EO S m:=by
 cases m with
 |no=>exact⟨fun _ _ _=>rfl,fun _ _ _=>rfl⟩
 |yes e=>exact Fg e (i0 e)
theorem ac7:mK (ev ag.T S e) acc true st=aD S e (bG (yf acc)) st:=((i0 e _ _ _).trans (kP (g:=fun a st=>some (a,st)) fun d st=>(tB fun _ _=>rfl).symm)).trans (tB fun _ _=>rfl) |>.symm
theorem WB(h:b=true):aJ b x=x:=by rw[h];rfl
theorem kK[Decidable p](h:p):aJ (decide p) x=x:=WB (decide_eq_true h)
theorem aeD:aZ f (some a)=f a:=rfl
theorem Ua:cn f (some (a,st))=f a st:=rfl
theorem Vy[Decidable p](h:p):jX x (decide p)=x:=by rw[decide_eq_true h];rfl
theorem XH[Decidable True]:decide True=true:=decide_eq_true trivial
theorem XG[Decidable False]:decide False=false:=decide_eq_false id
theorem aaP:St.get (a::l) 0=a:=rfl
theorem gtS:St.get (a::l) (n+1)=St.get l n:=rfl
theorem akO:List.set (a::l) 0 b=b::l:=rfl
theorem stS:List.set (a::l) (n+1) b=a::List.set l n b:=rfl
theorem nb0:Nat.blt 0 (n+1)=true:=rfl
theorem nbS:Nat.blt (n+1) (m+1)=Nat.blt n m:=rfl
theorem nq:beq (n+1) 0=false:=rfl
theorem ntf:(!false)=true:=rfl
theorem tan:(true&&b)=b:=rfl
theorem WD:aJ true x=x:=rfl
theorem Vz:jX x true=x:=rfl
theorem W5:bJ (.val d)=.val d:=rfl
theorem W2:bJ (.fresh c)=.val c.av:=rfl
theorem W3:bJ (.loc i)=.loc i:=rfl
theorem SV:AC.av (.lst l)=.lst l:=rfl
theorem SU:AC.av (.aq l)=.aq l:=rfl
theorem eQ:AC.av (.inst c l)=.inst c l:=rfl
theorem aeZ:look st (.val d)=some d:=rfl
theorem aeW:look st (.loc i)=nX (st.get i):=rfl
theorem adv:nX (.own c)=some c.av:=rfl
theorem aeU:jc st []=some []:=rfl
theorem aeV:jc st (.val d::rs)=yD d (jc st rs):=rfl
theorem aeT:jc st (.loc i::rs)=Mu st rs (nX (st.get i)):=rfl
theorem aeP:Mu st rs (some d)=yD d (jc st rs):=rfl
theorem aeO:yD d (some ds)=some (d::ds):=rfl
theorem agS:fU k st (.int i)=k (.val (.int i)) st:=rfl
theorem agQ:fU k st (.bytes i)=k (.val (.bytes i)) st:=rfl
theorem agX:fU k st (.str i)=k (.val (.str i)) st:=rfl
theorem agZ:fU k st (.tup i)=k (.val (.tup i)) st:=rfl
theorem agP:fU k st (.bool i)=k (.val (.bool i)) st:=rfl
theorem of_none:fU k st .none=k (.val .none) st:=rfl
theorem agU:fU k st (.lst i)=k (.fresh (.lst i)) st:=rfl
theorem agR:fU k st (.aq i)=k (.fresh (.aq i)) st:=rfl
theorem agW:fU k st (.fV a b c)=k (.val (.fV a b c)) st:=rfl
theorem amu:vX k st d=k (.val d) st:=rfl
theorem UE:tC k st d=k (.val (.bool d)) st:=rfl
theorem aaL:bG k (.val d) st=k d st:=rfl
theorem aaJ:bG k (.fresh c) st=k c.av st:=rfl
theorem aaK:bG k (.loc i) st=Ky i k st (st.get i):=rfl
theorem aaI:Ky i k st (.own c)=k c.av (st.set i (.val c.av)):=rfl
theorem amm:dH k (.val (.bool d)) st=k d st:=rfl
theorem ack:dG k (.val (.int d)) st=k d st:=rfl
theorem Yo:aD S (.var i) k st=pW i k st (st.get i):=rfl
theorem amy:pW i k st (.val d)=k (.val d) st:=rfl
theorem amx:pW i k st (.own c)=k (.loc i) st:=rfl
theorem Ye:aD S (.glob x d) k st=k (.val d) st:=rfl
theorem Yc:aD S (.con d) k st=k (.val d) st:=rfl
theorem X2:aD S (.bin o a b) k st=aD S a (ql o (aD S b) k) st:=rfl
theorem Yj:aD S (.neg a) k st=aD S a (dG (rq k)) st:=rfl
theorem Yk:aD S (.nt a) k st=aD S a (dH (ru k)) st:=rfl
theorem X8:aD S (.cmp o a b) k st=aD S a (qu o (aD S b) k) st:=rfl
theorem X9:aD S (.gb o p a b c) k st=aD S a (dG (qt o p (aD S b) (aD S c) k)) st:=rfl
theorem X5:aD S (.cv c l) k st=(bQ S l).t c (qp k) st:=rfl
theorem Yg:aD S (.dj c a b) k st=aD S c (dH (jD (aD S a k) (aD S b k))) st:=rfl
theorem Yn:aD S (.tup l) k st=(bQ S l).s (tupK k) st:=rfl
theorem Yh:aD S (.lst l) k st=(bQ S l).s (lstK k) st:=rfl
theorem Yd:aD S (.aq l) k st=(bQ S l).d [] (qC k) st:=rfl
theorem X1:aD S (.attr e x) k st=aD S e (qf x k) st:=rfl
theorem Ym:aD S (.sub a b) k st=aD S a (sk (aD S b) k) st:=rfl
theorem Yl{lo hi}:aD S (.fW a lo hi) k st=aD S a (si (j3 S lo) (j3 S hi) k) st:=rfl
theorem Yb{β:Type}{S:cf}{k:KR β}{st:St}{t}{it elt}{cond}:aD S (.comp c t it cond elt) k st=aD S it (bG (qx S c t cond elt st.length k)) st:=rfl
theorem X6:aD S (.call x f l) k st=(bQ S l).s (ni S f k) st:=rfl
theorem X7:aD S (.cz x f i l) k st=tD S (bQ S l) f i k st (st.get i):=rfl
theorem Yi:aD S (.aO o x l) k st=aD S o (rg S x (bQ S l) k) st:=rfl
theorem X3:aD S (.blt b l) k st=(bQ S l).r (qn b k) st:=rfl
theorem X4:aD S (.bm b o l) k st=aD S o (qo b (bQ S l) k) st:=rfl
theorem afb:(bQ S .nil).s k st=k [] st:=rfl
theorem ae6:(bQ S .nil).r k st=k [] st:=rfl
theorem ad9:(bQ S .nil).a k st=k [] st:=rfl
theorem ae9:(bQ S (.cons e r)).s k st=aD S e (bG (qM (bQ S r).s k)) st:=rfl
theorem ae5:(bQ S (.cons e r)).r k st=aD S e (qL (bQ S r).r k) st:=rfl
theorem ad7:(bQ S (.cons e r)).a k st=aD S e (bG (qI (bQ S r).a k)) st:=rfl
theorem ad8:(bQ S (.new r)).a k st=(bQ S r).a (mr none k) st:=rfl
theorem aff:(bQ S .nil).t c k st=k c st:=rfl
theorem afe:(bQ S (.cons e r)).t c k st=aD S e (dH (jw c ((bQ S r).t c) k)) st:=rfl
theorem aev:(bQ S .nil).d acc k st=k acc st:=rfl
theorem aeu:(bQ S (.cons e (.cons v r))).d acc k st=aD S e (dG (qJ (aD S v) (bQ S r).d acc k)) st:=rfl
theorem agF:(j3 S .no).o k st=k none st:=rfl
theorem agG:(j3 S (.yes e)).o k st=aD S e (dG (qK k)) st:=rfl
theorem ahc:(j3 S .no).p k st=k true st:=rfl
theorem ahd:(j3 S (.yes e)).p k st=aD S e (dH k) st:=rfl
theorem Uc:ql o m k ra st=m (tj o (bJ ra) k) st:=rfl
theorem Ue:tj o (.val x) k rb st=aZ (wR o k st x) (look st (bJ rb)):=rfl
theorem Ud:tj o (.loc i) k rb st=aZ (Bi o k rb st) (nX (st.get i)):=rfl
theorem Ug:Bi o k rb st x=aZ (wR o k st x) (look st (bJ rb)):=rfl
theorem Uh:wR o k st x y=aZ (fU k st) (fZ o x y):=rfl
theorem Wt:qu o m k ra st=m (gb o (bJ ra) k) st:=rfl
theorem Wv:gb o (.val x) k rb st=aZ (w7 o k st x) (look st (bJ rb)):=rfl
theorem Wu:gb o (.loc i) k rb st=aZ (Bu o k rb st) (nX (st.get i)):=rfl
theorem Ww:Bu o k rb st x=aZ (w7 o k st x) (look st (bJ rb)):=rfl
theorem Wx:w7 o k st x y=aZ (tC k st) (bh o x y):=rfl
theorem neg_eq:rq k i st=k (.val (.int (-i))) st:=rfl
theorem not_eq:ru k d st=k (.val (.bool (!d))) st:=rfl
theorem UG:qp k d st=k (.val (.bool d)) st:=rfl
theorem Wl:qt o p m m2 k x st=m (dG (wY o p m2 x k)) st:=rfl
theorem Wm:wY o p m x k y st=aZ (w5 p m y k st) (bh o (.int x) (.int y)):=rfl
theorem Wn:wZ p y k z st=aZ (tC k st) (bh p (.int y) (.int z)):=rfl
theorem Wq[Decidable p](h:p):w5 o m y k st (decide p)=m (dG (wZ o y k)) st:=by rw[decide_eq_true h];rfl
theorem Wo[Decidable p](h:¬p):w5 o m y k st (decide p)=k (.val (.bool false)) st:=by rw[decide_eq_false h];rfl
theorem acb:jD a b true st=a st:=rfl
theorem ab9:jD a b false st=b st:=rfl
theorem aca[Decidable p](h:p):jD a b (decide p) st=a st:=by rw[decide_eq_true h];rfl
theorem ab8[Decidable p](h:¬p):jD a b (decide p) st=b st:=by rw[decide_eq_false h];rfl
theorem Y3:jw true r k true st=r k st:=rfl
theorem Y2:jw true r k false st=k false st:=rfl
theorem Y1:jw false r k true st=k true st:=rfl
theorem Y0:jw false r k false st=r k st:=rfl
theorem YZ[Decidable p](h:p):jw c r k (decide p) st=jw c r k true st:=by rw[decide_eq_true h]
theorem YY[Decidable p](h:¬p):jw c r k (decide p) st=jw c r k false st:=by rw[decide_eq_false h]
theorem amo:tupK k l st=k (.val (.tup l)) st:=rfl
theorem afd:lstK k l st=k (.fresh (.lst l)) st:=rfl
theorem XJ:qC k l st=k (.fresh (.aq l)) st:=rfl
theorem SJ:qf x k r st=aZ (Ba x k st) (look st (bJ r)):=rfl
theorem SK:Ba x k st d=aZ (vX k st) (aQ ag.T d x):=rfl
theorem alQ:sk m k r st=m (vO (bJ r) k) st:=rfl
theorem alS:vO (.val x) k ri st=aZ (AG k st x) (look st (bJ ri)):=rfl
theorem alR:vO (.loc i) k ri st=aZ (EC k ri st) (nX (st.get i)):=rfl
theorem alT:EC k ri st x=aZ (AG k st x) (look st (bJ ri)):=rfl
theorem alU:AG k st x y=aZ (vX k st) (bt x y):=rfl
theorem ak3{lo hi:OK β}:si lo hi k r st=lo.o (AD hi (bJ r) k) st:=rfl
theorem ak4:AD hi r k l st=hi.o (AE r l k) st:=rfl
theorem ak5:AE r l k h st=aZ (Ey l h k st) (look st r):=rfl
theorem ak6:Ey l h k st d=aZ (fU k st) (lY d l h):=rfl
theorem WI{β:Type}{S:cf}{k:KR β}{st:St}{c n}{cond}{elt}{d}:qx S c t cond elt n k d st=aZ (By S c t cond elt n k st) (gJ d):=rfl
theorem WJ{β:Type}{S:cf}{k:KR β}{st:St}{c n}{cond}{elt}{l}:By S c t cond elt n k st l=cn (Bz n k) (dS (gL t (fL ag.T S cond) (ev ag.T S elt)) l [] (st++replicate c .no)):=rfl
theorem WK:Bz n k acc st=k (.fresh (.lst acc)) (st.take n):=rfl
theorem Vw:ni S f k vs st=vA k st (S f none vs):=rfl
theorem ajf:vA k st (some (.val d,none))=k (.val d) st:=rfl
theorem aje:vA k st (some (.fresh c,none))=k (.fresh c) st:=rfl
theorem ajz:Az i k st (some (.val d,some c))=k (.val d) (st.set i (.own c)):=rfl
theorem ajy:Az i k st (some (.fresh d,some c))=k (.fresh d) (st.set i (.own c)):=rfl
theorem Vt:tD S l f i k st (.own c)=l.s (oY S f i k) st:=rfl
theorem Vu:oY S f i k vs st=Bq S f i k vs st (st.get i):=rfl
theorem Vv:Bq S f i k vs st (.own c)=Az i k st (S f (some c) vs):=rfl
theorem afS:rg S x l k r st=aZ (DF S x l (bJ r) k st) (look st (bJ r)):=rfl
theorem afW:DF S x l r k st d=aZ (DE S l r k st) (bw ag.T d x):=rfl
theorem afT:DE S l r k st f=l.s (uD S f r k) st:=rfl
theorem afV:uD S f (.val d) k vs st=ni S f k (d::vs) st:=rfl
theorem afU:uD S f (.loc i) k vs st=oY S f i k vs st:=rfl
theorem Us:qn b k rs st=aZ (Bn b k st) (jc st rs):=rfl
theorem Ut:Bn b k st ds=aZ (fU k st) (aW b ds):=rfl
theorem Uw:qo b l k r st=aZ (wU b l (bJ r) k st) (look st (bJ r)):=rfl
theorem UA:wU .get l r k st (.aq d)=l.r (tm .get r k) st:=rfl
theorem UB:wU .join l r k st (.bytes d)=l.r (tm .join r k) st:=rfl
theorem Ux:tm b r k rs st=aZ (Bo b k rs st) (look st r):=rfl
theorem Uy:Bo b k rs st d=aZ (Bp b k st d) (jc st rs):=rfl
theorem Uz:Bp b k st d ds=aZ (fU k st) (aW b (d::ds)):=rfl
theorem YW:qM r k d st=r (xq d k) st:=rfl
theorem YX:xq d k ds st=k (d::ds) st:=rfl
theorem YU:qL r k d st=r (xp (bJ d) k) st:=rfl
theorem YV:xp d k ds st=k (d::ds) st:=rfl
theorem YR:qJ m r acc k x st=m (bG (xo r acc x k)) st:=rfl
theorem YO:qI r k d st=r (mr (some d) k) st:=rfl
theorem YQ:mr d k ds st=k (d::ds) st:=rfl
theorem YT:qK k i st=k (some i) st:=rfl
theorem amV:jx S .nil kn kr st=kn st:=rfl
theorem PN:jx S (.cons x r) kn kr st=i7 S x (jx S r kn kr) kr st:=rfl
theorem amP:i7 S (.asg i own e) kn kr st=aD S e (tc i own kn) st:=rfl
theorem amQ:i7 S (.eZ rev is es) kn kr st=(bQ S es).a (sY rev is kn) st:=rfl
theorem amR:i7 S (.fK is e) kn kr st=aD S e (bG (sZ is kn)) st:=rfl
theorem amX:i7 S (.aV i x e) kn kr st=aD S e (bG (vF i x kn)) st:=rfl
theorem amY:i7 S (.fF i k e) kn kr st=aD S e (bG (vH i (aD S k) kn)) st:=rfl
theorem amO:i7 S (.app i e) kn kr st=wu i (aD S e) kn st (st.get i):=rfl
theorem amS:i7 S (.drop e) kn kr st=aD S e (tI kn) st:=rfl
theorem amW:i7 S (.ret e) kn kr st=aD S e kr st:=rfl
theorem amU:i7 S (.iff c a b) kn kr st=aD S c (dH (jD (jx S a kn kr) (jx S b kn kr))) st:=rfl
theorem amT:i7 S (.bz t e b) kn kr st=aD S e (bG (tW S t b kn kr)) st:=rfl
theorem m6:i7 S (.gw c b) kn kr st=cn (gE kn kr) (gS (iJ (ev ag.T S c)) (bj ag.T S 1000 b) 1000 st):=rfl
theorem SD:tc i own kn r st=aZ kn (put st i own r):=rfl
theorem Sy:sZ is kn d st=aZ kn (lC st (.many is) d):=rfl
theorem Sw:sY rev is kn rs st=FQ rev is kn st rs (ble (dw rs) 1):=rfl
theorem Sv:FQ rev is kn st rs true=aZ kn (pq rev is rs st):=rfl
theorem agA:dw []=0:=rfl
theorem agC:dw (some d::r)=dw r:=rfl
theorem agB:dw (none::r)=dw r+1:=rfl
theorem Up:ble 0 1=true:=rfl
theorem Uq:ble 1 1=true:=rfl
theorem aid:put st i own (.val d)=aJ (Nat.blt i st.length) (some (st.set i (.val d))):=rfl
theorem ah9:put st i false (.fresh c)=aJ (Nat.blt i st.length) (some (st.set i (.val c.av))):=rfl
theorem aia:put st i true (.fresh c)=aJ (Nat.blt i st.length&& !beq i 0) (some (st.set i (.own c))):=rfl
theorem aic:put st i own (.loc j)=yn st i j (st.get j):=rfl
theorem ah4:yn st i j (.own c)=aJ (Nat.blt i st.length) (some ((st.set j (.val c.av)).set i (.val c.av))):=rfl
theorem Un:lC st (.one i) d=put st i false (.val d):=rfl
theorem Um:lC st (.many is) (.tup l)=oh is l st:=rfl
theorem ah8:oh [] [] st=some st:=rfl
theorem ah6:oh (i::is) (d::ds) st=aw (put st i false (.val d)) (oh is ds):=rfl
theorem ahV:pq false is rs st=hZ is rs st:=rfl
theorem ah1:pq true [i,j] [a,b] st=hZ [j,i] [b,a] st:=rfl
theorem ah2:pq true [i,j,h] [a,b,c] st=hZ [h,j,i] [c,b,a] st:=rfl
theorem ahW:hZ [] [] st=some st:=rfl
theorem ah0:hZ (i::is) (some d::ds) st=aw (put st i false (.val d)) (hZ is ds):=rfl
theorem ahX:hZ (i::is) (none::ds) st=aw (put st i true (.fresh (.lst []))) (hZ is ds):=rfl
theorem XX:tI kn (.val (.bytes b)) st=kn st:=rfl
theorem ajW:vF i x kn d st=Eu i x d kn st (st.get i):=rfl
theorem ajV:Eu i x d kn st (.own (.inst c fs))=lW i x d kn st c fs:=rfl
theorem aj2:vH i m kn d st=Ew i m d kn st (st.get i):=rfl
theorem ajX:Ew i m d kn st (.own c)=m (bG (AB i d kn)) st:=rfl
theorem ajY:AB i d kn k st=vG i d kn st k (st.get i):=rfl
theorem pM(h:c9 l k=true)(h2:l.length<1000000):vG i d kn st k (.own (.aq l))=kn (st.set i (.own (.aq (dh l k d)))):=by
 show jX _ (c9 l k&&decide (l.length<1000000))=_
 rw[h,decide_eq_true h2];rfl
theorem So:wu i m kn st (.own (.lst l))=m (bG (wx i kn)) st:=rfl
theorem Sq:wx i kn d st=A9 i d kn st (st.get i):=rfl
theorem dR(h:l.length<16777216):A9 i d kn st (.own (.lst l))=kn (st.set i (.own (.lst (l++[d])))):=Vy h
theorem Z8:gE kn kr .next st=kn st:=rfl
theorem Z9:gE kn kr (.ret r) st=kr r st:=rfl
theorem aay:tW S t b kn kr d st=aZ (Ci S t b kn kr st) (gJ d):=rfl
theorem aar:Ci S t b kn kr st l=cn (gE kn kr) (cG (eG t (bj ag.T S 1000 b)) l st):=rfl
theorem adt:eG t b x st=aw (lC st t x) b:=rfl
theorem ac1:gL t c e x acc st=aw (lC st t x) (Dj c e acc):=rfl
theorem ac3:Dj (fL ag.T S c) e acc st=(j3 S c).p (mK e acc) st:=((YN c).p _ _ _).symm
theorem ac8:mK (ev ag.T S e) acc true st=aD S e (bG (yf acc)) st:=(ac7 ..)
theorem ac6:mK e acc false st=some (acc,st):=rfl
theorem ac5[Decidable p](h:p):mK e acc (decide p) st=mK e acc true st:=by rw[decide_eq_true h]
theorem ac4[Decidable p](h:¬p):mK e acc (decide p) st=mK e acc false st:=by rw[decide_eq_false h]
theorem ac9(h:acc.length<16777216):yf acc v st=some (acc++[v],st):=kK h
noncomputable def bN(b:Bool)(st:St):Option (Bool×St):=some (b,st)
theorem S4:bN b st=some (b,st):=rfl
theorem aml:eK (ev ag.T S e st)=aD S e (dH bN) st:=((i0 e _ _ _).trans ((vT (g:=fun a st=>some (a,st)) fun d st=>rfl).trans ((tB fun _ _=>rfl).trans (tB fun _ _=>rfl)))).symm
theorem Zc:fN st=some (.next,st):=rfl
theorem Zd:fR r st=some (.ret r,st):=rfl
theorem aiT:rN r st=some (r,st):=rfl
theorem alI:start n none vs=vs.map .val++replicate (n-(0+vs.length)) .no:=rfl
theorem alJ:start n (some c) vs=.own c::(vs.map .val++replicate (n-(1+vs.length)) .no):=rfl
theorem agD:rC none st=some (.val .none,none):=rfl
theorem agE:rC (some c) st=nY c (.val .none) (st.get 0):=rfl
theorem ajE:lp none (.val d) st=some (.val d,none):=rfl
theorem ajC:lp none (.fresh c) st=some (.fresh c,none):=rfl
theorem ajD:lp none (.loc i) st=Mf (st.get i):=rfl
theorem adF:Mf (.own c)=some (.fresh c,none):=rfl
theorem ajH:lp (some c) (.val d) st=nY c (.val d) (st.get 0):=rfl
theorem ajF:lp (some c) (.fresh d) st=nY c (.fresh d) (st.get 0):=rfl
theorem ajG:lp (some c) (.loc (i+1)) st=Me c (st.get 0) (st.get (i+1)):=rfl
theorem adC:Me c s (.own d)=nY c (.fresh d) s:=rfl
theorem adD:nY (.inst a b) r (.own (.inst c d))=some (r,some (.inst c d)):=rfl
theorem adE:nY (.lst a) r (.own (.lst c))=some (r,some (.lst c)):=rfl
theorem age:jI none=0:=rfl
theorem agf:jI (some c)=1:=rfl
theorem Rt:aQ ag.T (.inst 171 [(cu,v0)]) cu=some v0:=rfl
theorem Ru:aQ ag.T (.inst 192 [(gv,v0),(lV,v1),(gq,v2),(ig,v3)]) gv=some v0:=rfl
theorem Rv:aQ ag.T (.inst 192 [(gv,v0),(lV,v1),(gq,v2),(ig,v3)]) lV=some v1:=rfl
theorem Rw:aQ ag.T (.inst 192 [(gv,v0),(lV,v1),(gq,v2),(ig,v3)]) gq=some v2:=rfl
theorem Rx:aQ ag.T (.inst 192 [(gv,v0),(lV,v1),(gq,v2),(ig,v3)]) ig=some v3:=rfl
theorem Ry:aQ ag.T (.inst 337 [(aH,v0),(cx,v1),(d8,v2),(jg,v3),(iO,v4),(jh,v5)]) aH=some v0:=rfl
theorem Rz:aQ ag.T (.inst 337 [(aH,v0),(cx,v1),(d8,v2),(jg,v3),(iO,v4),(jh,v5)]) cx=some v1:=rfl
theorem RB:aQ ag.T (.inst 337 [(aH,v0),(cx,v1),(d8,v2),(jg,v3),(iO,v4),(jh,v5)]) d8=some v2:=rfl
theorem RD:aQ ag.T (.inst 337 [(aH,v0),(cx,v1),(d8,v2),(jg,v3),(iO,v4),(jh,v5)]) jg=some v3:=rfl
theorem RE:aQ ag.T (.inst 337 [(aH,v0),(cx,v1),(d8,v2),(jg,v3),(iO,v4),(jh,v5)]) iO=some v4:=rfl
theorem RF:aQ ag.T (.inst 337 [(aH,v0),(cx,v1),(d8,v2),(jg,v3),(iO,v4),(jh,v5)]) jh=some v5:=rfl
theorem RG:aQ ag.T (.inst 363 [(d8,v0),(cx,v1),(ck,v2)]) d8=some v0:=rfl
theorem RI:aQ ag.T (.inst 363 [(d8,v0),(cx,v1),(ck,v2)]) cx=some v1:=rfl
theorem RJ:aQ ag.T (.inst 363 [(d8,v0),(cx,v1),(ck,v2)]) ck=some v2:=rfl
theorem RL:aQ ag.T (.inst 468 [(bA,v0),(cw,v1),(bL,v2),(eX,v3),(jj,v4)]) bA=some v0:=rfl
theorem RN:aQ ag.T (.inst 468 [(bA,v0),(cw,v1),(bL,v2),(eX,v3),(jj,v4)]) cw=some v1:=rfl
theorem RP:aQ ag.T (.inst 468 [(bA,v0),(cw,v1),(bL,v2),(eX,v3),(jj,v4)]) bL=some v2:=rfl
theorem RQ:aQ ag.T (.inst 468 [(bA,v0),(cw,v1),(bL,v2),(eX,v3),(jj,v4)]) eX=some v3:=rfl
theorem RS:aQ ag.T (.inst 468 [(bA,v0),(cw,v1),(bL,v2),(eX,v3),(jj,v4)]) jj=some v4:=rfl
theorem RU:aQ ag.T (.inst 524 [(iN,v0),(iP,v1),(iR,v2),(cJ,v3)]) iN=some v0:=rfl
theorem RX:aQ ag.T (.inst 524 [(iN,v0),(iP,v1),(iR,v2),(cJ,v3)]) iP=some v1:=rfl
theorem RY:aQ ag.T (.inst 524 [(iN,v0),(iP,v1),(iR,v2),(cJ,v3)]) iR=some v2:=rfl
theorem RZ:aQ ag.T (.inst 524 [(iN,v0),(iP,v1),(iR,v2),(cJ,v3)]) cJ=some v3:=rfl
theorem R0:aQ ag.T (.inst 599 [(cD,v0),(dz,v1)]) cD=some v0:=rfl
theorem R1:aQ ag.T (.inst 599 [(cD,v0),(dz,v1)]) dz=some v1:=rfl
theorem R2:aQ ag.T (.inst 714 [(aH,v0),(bF,v1)]) aH=some v0:=rfl
theorem R3:aQ ag.T (.inst 714 [(aH,v0),(bF,v1)]) bF=some v1:=rfl
theorem R4:aQ ag.T (.inst 770 [(cO,v0),(fA,v1),(gu,v2),(iS,v3),(gQ,v4)]) cO=some v0:=rfl
theorem R5:aQ ag.T (.inst 770 [(cO,v0),(fA,v1),(gu,v2),(iS,v3),(gQ,v4)]) fA=some v1:=rfl
theorem R6:aQ ag.T (.inst 770 [(cO,v0),(fA,v1),(gu,v2),(iS,v3),(gQ,v4)]) gu=some v2:=rfl
theorem R7:aQ ag.T (.inst 770 [(cO,v0),(fA,v1),(gu,v2),(iS,v3),(gQ,v4)]) iS=some v3:=rfl
theorem R8:aQ ag.T (.inst 770 [(cO,v0),(fA,v1),(gu,v2),(iS,v3),(gQ,v4)]) gQ=some v4:=rfl
theorem R9:aQ ag.T (.inst 849 [(aH,v0),(fE,v1)]) aH=some v0:=rfl
theorem Sa:aQ ag.T (.inst 849 [(aH,v0),(fE,v1)]) fE=some v1:=rfl
theorem Sb:aQ ag.T (.inst 944 [(ko,v0),(kq,v1)]) ko=some v0:=rfl
theorem Sd:aQ ag.T (.inst 944 [(ko,v0),(kq,v1)]) kq=some v1:=rfl
theorem Se:aQ ag.T (.inst 989 [(cu,v0)]) cu=some v0:=rfl
theorem Q7:aQ ag.T (.inst 1045 [(cN,v0),(cT,v1),(bH,v2),(fB,v3),(cw,v4)]) cN=some v0:=rfl
theorem Q8:aQ ag.T (.inst 1045 [(cN,v0),(cT,v1),(bH,v2),(fB,v3),(cw,v4)]) cT=some v1:=rfl
theorem Q9:aQ ag.T (.inst 1045 [(cN,v0),(cT,v1),(bH,v2),(fB,v3),(cw,v4)]) bH=some v2:=rfl
theorem Ra:aQ ag.T (.inst 1045 [(cN,v0),(cT,v1),(bH,v2),(fB,v3),(cw,v4)]) fB=some v3:=rfl
theorem Rb:aQ ag.T (.inst 1045 [(cN,v0),(cT,v1),(bH,v2),(fB,v3),(cw,v4)]) cw=some v4:=rfl
theorem Rc:aQ ag.T (.inst 1069 [(dg,v0),(dm,v1),(dY,v2),(bC,v3),(bA,v4),(bL,v5),(bg,v6)]) dg=some v0:=rfl
theorem Rd:aQ ag.T (.inst 1069 [(dg,v0),(dm,v1),(dY,v2),(bC,v3),(bA,v4),(bL,v5),(bg,v6)]) dm=some v1:=rfl
theorem Rf:aQ ag.T (.inst 1069 [(dg,v0),(dm,v1),(dY,v2),(bC,v3),(bA,v4),(bL,v5),(bg,v6)]) dY=some v2:=rfl
theorem Rg:aQ ag.T (.inst 1069 [(dg,v0),(dm,v1),(dY,v2),(bC,v3),(bA,v4),(bL,v5),(bg,v6)]) bC=some v3:=rfl
theorem Rh:aQ ag.T (.inst 1069 [(dg,v0),(dm,v1),(dY,v2),(bC,v3),(bA,v4),(bL,v5),(bg,v6)]) bA=some v4:=rfl
theorem Ri:aQ ag.T (.inst 1069 [(dg,v0),(dm,v1),(dY,v2),(bC,v3),(bA,v4),(bL,v5),(bg,v6)]) bL=some v5:=rfl
theorem Rj:aQ ag.T (.inst 1069 [(dg,v0),(dm,v1),(dY,v2),(bC,v3),(bA,v4),(bL,v5),(bg,v6)]) bg=some v6:=rfl
theorem Rk:aQ ag.T (.inst 1173 [(bE,v0),(bq,v1),(bg,v2),(ck,v3),(d7,v4),(dZ,v5),(bC,v6)]) bE=some v0:=rfl
theorem Rl:aQ ag.T (.inst 1173 [(bE,v0),(bq,v1),(bg,v2),(ck,v3),(d7,v4),(dZ,v5),(bC,v6)]) bq=some v1:=rfl
theorem Rn:aQ ag.T (.inst 1173 [(bE,v0),(bq,v1),(bg,v2),(ck,v3),(d7,v4),(dZ,v5),(bC,v6)]) bg=some v2:=rfl
theorem Ro:aQ ag.T (.inst 1173 [(bE,v0),(bq,v1),(bg,v2),(ck,v3),(d7,v4),(dZ,v5),(bC,v6)]) ck=some v3:=rfl
theorem Rp:aQ ag.T (.inst 1173 [(bE,v0),(bq,v1),(bg,v2),(ck,v3),(d7,v4),(dZ,v5),(bC,v6)]) d7=some v4:=rfl
theorem Rq:aQ ag.T (.inst 1173 [(bE,v0),(bq,v1),(bg,v2),(ck,v3),(d7,v4),(dZ,v5),(bC,v6)]) dZ=some v5:=rfl
theorem Rr:aQ ag.T (.inst 1173 [(bE,v0),(bq,v1),(bg,v2),(ck,v3),(d7,v4),(dZ,v5),(bC,v6)]) bC=some v6:=rfl
theorem afs:bw ag.T (.inst 171 [(cu,v0)]) mV=some 154:=rfl
theorem aft:bw ag.T (.inst 171 [(cu,v0)]) rY=some 161:=rfl
theorem afu:bw ag.T (.inst 171 [(cu,v0)]) iU=some 168:=rfl
theorem afv:bw ag.T (.inst 337 [(aH,v0),(cx,v1),(d8,v2),(jg,v3),(iO,v4),(jh,v5)]) iQ=some 334:=rfl
theorem afw:bw ag.T (.inst 363 [(d8,v0),(cx,v1),(ck,v2)]) iQ=some 360:=rfl
theorem afx:bw ag.T (.inst 524 [(iN,v0),(iP,v1),(iR,v2),(cJ,v3)]) iT=some 521:=rfl
theorem afy:bw ag.T (.inst 599 [(cD,v0),(dz,v1)]) gr=some 579:=rfl
theorem afz:bw ag.T (.inst 599 [(cD,v0),(dz,v1)]) cx=some 586:=rfl
theorem afA:bw ag.T (.inst 599 [(cD,v0),(dz,v1)]) cw=some 596:=rfl
theorem afB:bw ag.T (.inst 714 [(aH,v0),(bF,v1)]) mR=some 690:=rfl
theorem afC:bw ag.T (.inst 714 [(aH,v0),(bF,v1)]) ot=some 697:=rfl
theorem afD:bw ag.T (.inst 714 [(aH,v0),(bF,v1)]) om=some 704:=rfl
theorem afE:bw ag.T (.inst 714 [(aH,v0),(bF,v1)]) mU=some 711:=rfl
theorem afF:bw ag.T (.inst 849 [(aH,v0),(fE,v1)]) cJ=some 823:=rfl
theorem afG:bw ag.T (.inst 849 [(aH,v0),(fE,v1)]) vj=some 830:=rfl
theorem afH:bw ag.T (.inst 849 [(aH,v0),(fE,v1)]) bH=some 846:=rfl
theorem afI:bw ag.T (.inst 944 [(ko,v0),(kq,v1)]) cN=some 934:=rfl
theorem afJ:bw ag.T (.inst 944 [(ko,v0),(kq,v1)]) cT=some 941:=rfl
theorem afK:bw ag.T (.inst 989 [(cu,v0)]) oq=some 986:=rfl
theorem afi:bw ag.T (.inst 1045 [(cN,v0),(cT,v1),(bH,v2),(fB,v3),(cw,v4)]) aH=some 1035:=rfl
theorem afj:bw ag.T (.inst 1045 [(cN,v0),(cT,v1),(bH,v2),(fB,v3),(cw,v4)]) gr=some 1042:=rfl
theorem afk:bw ag.T (.inst 1173 [(bE,v0),(bq,v1),(bg,v2),(ck,v3),(d7,v4),(dZ,v5),(bC,v6)]) bA=some 1114:=rfl
theorem afl:bw ag.T (.inst 1173 [(bE,v0),(bq,v1),(bg,v2),(ck,v3),(d7,v4),(dZ,v5),(bC,v6)]) cJ=some 1121:=rfl
theorem afm:bw ag.T (.inst 1173 [(bE,v0),(bq,v1),(bg,v2),(ck,v3),(d7,v4),(dZ,v5),(bC,v6)]) cO=some 1128:=rfl
theorem afn:bw ag.T (.inst 1173 [(bE,v0),(bq,v1),(bg,v2),(ck,v3),(d7,v4),(dZ,v5),(bC,v6)]) bH=some 1135:=rfl
theorem afo:bw ag.T (.inst 1173 [(bE,v0),(bq,v1),(bg,v2),(ck,v3),(d7,v4),(dZ,v5),(bC,v6)]) rZ=some 1142:=rfl
theorem afp:bw ag.T (.inst 1173 [(bE,v0),(bq,v1),(bg,v2),(ck,v3),(d7,v4),(dZ,v5),(bC,v6)]) cN=some 1149:=rfl
theorem afq:bw ag.T (.inst 1173 [(bE,v0),(bq,v1),(bg,v2),(ck,v3),(d7,v4),(dZ,v5),(bC,v6)]) cT=some 1156:=rfl
theorem afr:bw ag.T (.inst 1173 [(bE,v0),(bq,v1),(bg,v2),(ck,v3),(d7,v4),(dZ,v5),(bC,v6)]) gp=some 1163:=rfl
theorem ajQ:lW i bF d kn st 714 [(aH,a),(bF,b)]=kn (st.set i (.own (.inst 714 [(aH,a),(bF,d)]))):=rfl
theorem Tv:fZ .add (.int a) (.int b)=some (.int (a+b)):=rfl
theorem TY:fZ .sub (.int a) (.int b)=some (.int (a-b)):=rfl
theorem pN(h: -1099511627776≤i∧i≤1099511627776):eJ i=true:=Nat.ble_eq_true_of_le (by omega)
theorem TO(h: -1099511627776≤b∧b≤1099511627776):fZ .mul (.int a) (.int b)=some (.int (a*b)):=by
 show aJ (eJ a||eJ b) (some (AV.int (a*b)))=_
 rw[pN h,Bool.or_true];rfl
theorem TN(h: -1099511627776≤a∧a≤1099511627776):fZ .mul (.int a) (.int b)=some (.int (a*b)):=by
 show aJ (eJ a||eJ b) (some (AV.int (a*b)))=_
 rw[pN h,Bool.true_or];rfl
theorem TF(h:0<b)(h2:b≤1099511627776):fZ .fdiv (.int a) (.int b)=some (.int (a/b)):=by
 show aJ (decide (b≠0)&&eJ b) (some (AV.int (a.fdiv b)))=_
 rw[Int.fdiv_eq_ediv_of_nonneg a (Int.le_of_lt h),pN ⟨by omega,h2⟩,decide_eq_true (Int.ne_of_gt h)];rfl
theorem TK(h:0<b):fZ .mod (.int a) (.int b)=some (.int (a%b)):=by
 show aJ (decide (b≠0)) (some (AV.int (a.fmod b)))=_
 rw[Int.fmod_eq_emod_of_nonneg a (Int.le_of_lt h),decide_eq_true (Int.ne_of_gt h)];rfl
theorem Tz:fZ .band (.int a) (.int b)=some (.int (Builtin.bitAnd a b)):=rfl
theorem TA:fZ .bor (.int a) (.int b)=some (.int (Builtin.bitOr a b)):=rfl
theorem Tw(h:a.length+b.length≤16777216):fZ .add (.bytes a) (.bytes b)=some (.bytes (a++b)):=kK h
theorem Tx(h:a.length+b.length≤16777216):fZ .add (.lst a) (.lst b)=some (.lst (a++b)):=kK h
theorem Vi:bh .lt (.int a) (.int b)=some (decide (a<b)):=rfl
theorem Vg:bh .le (.int a) (.int b)=some (decide (a≤b)):=rfl
theorem Ve:bh .gt (.int a) (.int b)=some (decide (b<a)):=rfl
theorem Vc:bh .ge (.int a) (.int b)=some (decide (b≤a)):=rfl
theorem Va:bh .eq (.int a) (.int b)=some (decide (a=b)):=rfl
theorem HZ:bh .ne (.int a) (.int b)=some (decide (a≠b)):=by rw[decide_not];rfl
theorem Hb{a b:List UInt8}:(a==b)=decide (a=b):=by rw[Bool.eq_iff_iff,beq_iff_eq,decide_eq_true_eq]
theorem U9{a b:List UInt8}:bh .eq (.bytes a) (.bytes b)=some (decide (a=b)):=by rw[←Hb];rfl
theorem Vk{a b:List UInt8}:bh .ne (.bytes a) (.bytes b)=some (decide (a≠b)):=by rw[decide_not,←Hb];rfl
theorem Vl:bh .ne (.lst a) (.lst [])=some (decide (a≠[])):=by cases a<;>rfl
theorem Vb:bh .eq (.lst a) (.lst [])=some (decide (a=[])):=by cases a<;>rfl
theorem ab5(h0:0≤i)(h:i.toNat<n):idx n i=some i.toNat:=by
 unfold idx
 rw[decide_eq_true h0]
 exact kK (by omega)
theorem kB(h0:0≤i)(h:l[i.toNat]? =some v):bt (.lst l) (.int i)=some v:=by
 show aw (idx l.length i) (fun j=>l[j]?)=_
 rw[ab5 h0 (List.getElem?_eq_some_iff.mp h).1];exact h
theorem aor(h0:0≤i)(h:l[i.toNat]? =some v):bt (.tup l) (.int i)=some v:=kB h0 h
theorem sq:bt (.lst (l++[v])) (.int (-1))=some v:=by
 show aw (idx (l++[v]).length (-1)) (fun j=>(l++[v])[j]?)=_
 have:idx (l++[v]).length (-1)=some l.length:=by
  rw[length_append,length_singleton]
  show aJ (decide (0≤ -1+((l.length+1:Nat):Int))) (some (-1+((l.length+1:Nat):Int)).toNat)=_
  rw[kK (by omega),show -1+((l.length+1:Nat):Int)=l.length by omega];rfl
 rw[this]
 show(l++[v])[l.length]? =_
 rw[getElem?_append_right (le_refl _),sub_self];rfl
theorem ad4:aW .len [.bytes b]=some (.int b.length):=rfl
theorem ad5:aW .len [.str b]=some (.int b.length):=rfl
theorem rd:aW .len [.lst b]=some (.int b.length):=rfl
theorem ad6:aW .len [.tup b]=some (.int b.length):=rfl
theorem am0:aW .bytes [.bytes b]=some (.bytes b):=rfl
def aoi(l:List AV):Option AV:=(jK l).map .bytes
theorem am2:aW .bytes [.lst l]=(jK l).map .bytes:=by show aw (jK l) _=_;cases jK l<;>rfl
theorem am1(h:0≤n∧n≤16777216):aW .bytes [.int n]=some (.bytes (replicate n.toNat 0)):=kK h
theorem rg1:aW .range [.int b]=some (.fV 0 b 1):=rfl
theorem rg2:aW .range [.int a,.int b]=some (.fV a b 1):=rfl
theorem rg3(h:0<c∧c≤1099511627776):aW .range [.int a,.int b,.int c]=some (.fV a b c):=by
 show aJ (true&&decide (0<c)&&eJ c) _=_
 rw[decide_eq_true h.1,pN ⟨by omega,h.2⟩];rfl
theorem aeF:aW .list [.lst b]=some (.lst b):=rfl
theorem i_i:aW .int [.int b]=some (.int b):=rfl
theorem i_b:aW .int [.bool b]=some (.int (if b then 1 else 0)):=rfl
theorem mx:aW .max [.int a,.int b]=some (.int (if a<b then b else a)):=rfl
theorem mn:aW .min [.int a,.int b]=some (.int (if b<a then b else a)):=rfl
theorem LC:gJ (.lst l)=some l:=rfl
theorem acu:gJ (.tup l)=some l:=rfl
theorem acq:gJ (.bytes b)=some (b.map fun x=>.int x.toNat):=rfl
theorem alW(h:0≤i∧i<b.length):bt (.bytes b) (.int i)=some (.int (b.getD i.toNat 0).toNat):=kK h
theorem acs(h:0<c∧ -1099511627776≤a∧a≤1099511627776∧ -1099511627776≤b∧b≤1099511627776∧c≤1099511627776):gJ (.fV a b c)=some (ij a b c):=by
 show aJ (decide (0<c)&&eJ a&&eJ b&&eJ c) _=_
 rw[decide_eq_true h.1,pN ⟨h.2.1,h.2.2.1⟩,pN ⟨h.2.2.2.1,h.2.2.2.2.1⟩,pN ⟨by omega,h.2.2.2.2.2⟩];rfl
theorem agJ:jK []=some []:=rfl
theorem agI(h:0≤i∧i<256):jK (.int i::r)=(jK r).map (UInt8.ofNat i.toNat:: ·):=by
 show aJ (decide (0≤i∧i<256)) (aw (jK r) fun l=>some (UInt8.ofNat i.toNat::l))=_
 rw[kK h];cases jK r<;>rfl
theorem aaE(h:b.length≤8):aW .fromBytes [.bytes b,.str zw]=some (.int (qk b 0)):=by
 show aJ (zw=="big"&&decide (b.length≤8)) _=_
 rw[decide_eq_true h];rfl
theorem ak7{b lo hi}:lY (.bytes b) lo hi=some (.bytes (part b lo hi)):=rfl
theorem Ez{b lo hi}:lY (.lst b) lo hi=some (.lst (part b lo hi)):=rfl
theorem aeG{α β:Type}(a:α)(f:α→Option β):aw (some a) f=f a:=rfl
theorem UD{α β:Type}(a:α)(st:St)(f:α→St→Option β):ak (some (a,st)) f=f a st:=rfl
theorem rB(h:a=b):a=b:=h
theorem xx:cG b (x::xs) st=cn (kS (cG b xs)) (b x st):=oT.symm
theorem xy:cG b [] st=some (.next,st):=rfl
theorem nZ:kS r .next st=r st:=rfl
theorem AR:gS (iJ (ev ag.T S c)) (bj ag.T S 1000 b) (n+1) st=aD S c (dH (kW (bj ag.T S 1000 b) (gS (iJ (ev ag.T S c)) (bj ag.T S 1000 b) n))) st:=by
 refine Eq.trans ?_ (i0 c _ _ st).symm
 show ak (eK (ev ag.T S c st)) _=_
 cases ev ag.T S c st with
 |none=>rfl
 |some p=>exact oT.symm
theorem uz:kW b a true st=cn (kS a) (b st):=oT.symm
theorem yz:kW b a false st=some (.next,st):=rfl
theorem yw[Decidable p](h:p):kW b a (decide p) st=cn (kS a) (b st):=by rw[decide_eq_true h];exact uz
theorem yv[Decidable p](h:¬p):kW b a (decide p) st=some (.next,st):=by rw[decide_eq_false h];rfl
theorem jz{st aj:St}(h:b x st=some (.next,aj)):cG b (x::xs) st=cG b xs aj:=by
 show ak (b x st) _=_
 rw[h];rfl
theorem aaw(mk:Nat→σ→St)(I:Nat→σ→Prop):∀(k:Nat) (s0:σ),I k s0→(∀i x s,xs[i]? =some x→I (k+i) s→∃s',b x (mk (k+i) s)=some (.next,mk (k+i+1) s')∧I (k+i+1) s')→∃s',cG b xs (mk k s0)=some (.next,mk (k+xs.length) s')∧I (k+xs.length) s':=by
 induction xs with
 |nil=>exact fun k s0 hi _=>⟨s0,rfl,hi⟩
 |cons x xs ih=>
  intro k s0 hi hs
  refine(hs 0 x s0 rfl hi).elim fun s1 h=> ?_
  have z:=ih (k+1) s1 h.2 fun i y s hy=>add_right_comm k i 1▸hs (i+1) y s hy
  rw[jz (show b x (mk k s0)=_ from h.1)]
  exact add_right_comm k xs.length 1▸z
theorem tX(hX:cG b xs st=X)(mk:Nat→σ→St)(s0:σ)(h0:st=mk 0 s0)(hs:∀(i:Nat) x s,xs[i]? =some x→∃s',b x (mk i s)=some (.next,mk (i+1) s')):∃s',X=some (.next,mk xs.length s'):=
 (aaw mk (fun _ _=>True) (xs:=xs) 0 s0 trivial fun i x s h _=>(hs i x s h).elim fun s' h'=>⟨s',by rw[zero_add];exact⟨h',trivial⟩⟩).elim fun s h=>⟨s,by rw[←hX,h0,h.1,zero_add]⟩
theorem nv{st aj:St}(h:f x acc st=some (FH,aj)):dS f (x::xs) acc st=dS f xs FH aj:=by
 show ak (f x acc st) _=_
 rw[h];rfl
theorem WO(mk:σ→St)(I:List AV→List AV→σ→Prop):∀{acc:List AV} {X st} (_:dS f xs acc st=X) (s0) (_:st=mk s0) (_:I xs acc s0) (_:∀x xs acc s,I (x::xs) acc s→∃iB s',f x acc (mk s)=some (iB,mk s')∧I xs iB s'),∃iB s',X=some (iB,mk s')∧I [] iB s':=by
 induction xs with
 |nil=>exact fun hX s0 h0 hi _=>⟨_,s0,by rw[←hX,h0];rfl,hi⟩
 |cons x xs ih=>exact fun hX s0 h0 hi hs=>(hs x xs _ s0 hi).elim fun FH h=>h.elim fun s1 h=>ih (by rw[←hX,h0,nv h.1]) s1 rfl h.2 hs
theorem v8{st aj:St}(h:eK (ev ag.T S c st)=some (true,st))(h1:bj ag.T S 1000 b st=some (.next,aj)):gS (iJ (ev ag.T S c)) (bj ag.T S 1000 b) (n+1) st=gS (iJ (ev ag.T S c)) (bj ag.T S 1000 b) n aj:=by
 show ak (eK (ev ag.T S c st)) _=_
 rw[h]
 show ak (bj ag.T S 1000 b st) _=_
 rw[h1];rfl
theorem v7(h:eK (ev ag.T S c st)=some (false,st)):gS (iJ (ev ag.T S c)) (bj ag.T S 1000 b) (n+1) st=some (.next,st):=by
 show ak (eK (ev ag.T S c st)) _=_
 rw[h];rfl
theorem amD(hX:gS (iJ (ev ag.T S c)) (bj ag.T S 1000 b) n st=X)(mk:σ→St)(I D:σ→Prop)(μ:σ→Nat)(hs:∀s,I s→(eK (ev ag.T S c (mk s))=some (false,mk s)∧D s)∨(eK (ev ag.T S c (mk s))=some (true,mk s)∧∃s',bj ag.T S 1000 b (mk s)=some (.next,mk s')∧I s'∧μ s'<μ s))(s0)(h0:st=mk s0)(hi:I s0)(hn:μ s0<n):∃s',X=some (.next,mk s')∧I s'∧D s':=by
 subst h0 hX
 induction n generalizing s0 with
 |zero=>exact absurd hn (not_lt_zero _)
 |succ n ih=>exact(hs s0 hi).elim (fun h=>⟨s0,v7 h.1,hi,h.2⟩) fun h=>h.2.elim fun s' h'=>(ih s' h'.2.1 (lt_of_lt_of_le h'.2.2 (le_of_lt_succ hn))).imp fun s2 h4=>⟨(v8 h.1 h'.1).trans h4.1,h4.2⟩
theorem Kv(mk:σ→St)(I:List AV→σ→Prop):∀{X st} (_:cG b xs st=X) (s0:σ) (_:st=mk s0) (_:I xs s0) (_:∀x xs s,I (x::xs) s→∃s',b x (mk s)=some (.next,mk s')∧I xs s'),∃s',X=some (.next,mk s')∧I [] s':=by
 induction xs with
 |nil=>exact fun hX s0 h0 hi _=>⟨s0,by rw[←hX,h0];rfl,hi⟩
 |cons x xs ih=>exact fun hX s0 h0 hi hs=>(hs x xs s0 hi).elim fun s1 h=>ih (by rw[←hX,h0,jz h.1]) s1 rfl h.2 hs
theorem qz(hX:dS f xs [] st=X)(mk:σ→St)(ys:List AV)(s0:σ)(h0:st=mk s0)(hy:ys.length=xs.length)(hl:xs.length≤16777216)(hs:∀(i:Nat) x y acc s,xs[i]? =some x→ys[i]? =some y→acc.length<16777216→∃s',f x acc (mk s)=some (acc++[y],mk s')):∃s',X=some (ys,mk s'):=by
 refine(WO mk (fun r acc _=>∃p,xs=p++r∧acc=ys.take p.length) hX s0 h0 ⟨[],rfl,rfl⟩ fun x r acc s h=>h.elim fun p h=> ?_).elim fun acc h=>h.elim fun s h=>h.2.elim fun p h2=>⟨s,by rw[h.1,h2.2,take_of_length_le (by rw[hy,h2.1,append_nil];exact le_refl _)]⟩
 have h3:p.length<ys.length:=by rw[hy,h.1,length_append];exact lt_add_of_pos_right (succ_pos _)
 have h4:ys[p.length]? =some ys[p.length]:=getElem?_eq_getElem h3
 refine(hs p.length x _ acc s (by rw[h.1,getElem?_append_right (le_refl _),sub_self];rfl) h4 (by rw[h.2,length_take,min_eq_left (le_of_lt h3)];exact lt_of_lt_of_le h3 (hy▸hl))).elim fun s' e=>⟨_,s',e,p++[x],?_,?_⟩
 ·rw[h.1,append_assoc];rfl
 ·rw[h.2,length_append];rw[length_singleton,take_add_one,h4];rfl
section
theorem lG(mk:Nat→σ→St)(s0:σ)(h0:st=mk 0 s0)(hs:∀(i:Nat) x s,xs[i]? =some x→∃s',b x (mk i s)=some (.next,mk (i+1) s'))(hk:∀s,kn (mk xs.length s)=R):cn (gE kn kr) (cG b xs st)=R:=(tX rfl mk s0 h0 hs).elim fun s e=>(congrArg _ e).trans (hk s)
theorem w8(mk:σ→St)(ys:List AV)(s0:σ)(h0:st=mk s0)(hy:ys.length=xs.length)(hl:xs.length≤16777216)(hs:∀(i:Nat) x y acc s,xs[i]? =some x→ys[i]? =some y→acc.length<16777216→∃s',f x acc (mk s)=some (acc++[y],mk s'))(hk:∀s,k ys (mk s)=R):cn k (dS f xs [] st)=R:=(qz rfl mk ys s0 h0 hy hl hs).elim fun s e=>(congrArg _ e).trans (hk s)
end
theorem OJ{a b c:Int}{i:Nat}(hc:0<c)(h:(ij a b c)[i]? =some x):x=.int (a+c*i)∧a+c*i<b:=by
 unfold ij at h
 rw[if_pos hc,getElem?_map,map_eq_some_iff]at h
 refine h.elim fun k h=> ?_
 have h1:=List.getElem?_eq_some_iff.mp h.1
 refine h1.elim fun h2 h1=> ?_
 rw[length_range]at h2
 rw[getElem_range]at h1
 subst h1
 refine⟨h.2.symm,?_⟩
 rw[Int.fdiv_eq_ediv_of_nonneg _ (Int.le_of_lt hc)]at h2
 have h4:((i:Int)+1)*c≤b-a+c-1:=(Int.le_ediv_iff_mul_le hc).mp (by omega)
 rw[Int.add_mul,Int.one_mul,mul_comm]at h4
 omega
theorem Er(b:Int):ij 0 b 1=(List.range b.toNat).map fun i=>.int (i:Int):=by
 unfold ij
 rw[if_pos (by decide),show(b-0+1-1).fdiv 1=b by rw[Int.fdiv_one];omega]
 simp
theorem Bl(h:k≤j)(q: -k≤a∧a≤k∧ -k≤b∧b≤k): -j≤a∧a≤j∧ -j≤b∧b≤j:=⟨Int.le_trans (Int.neg_le_neg h) q.1,Int.le_trans q.2.1 h,Int.le_trans (Int.neg_le_neg h) q.2.2.1,Int.le_trans q.2.2.2 h⟩
theorem Hg(q: -k≤a∧a≤k)(h: -j≤b∧b≤j): -(k+j)≤a+b∧a+b≤k+j:=⟨Int.neg_add▸Int.add_le_add q.1 h.1,Int.add_le_add q.2 h.2⟩
noncomputable def dc:ai→MS
 |.cons x _=>x
 |.nil=>.stop
noncomputable def dq:ai→ai
 |.cons _ r=>r
 |.nil=>.nil
noncomputable def dr(b:ai):Nat→ai
 |0=>b
 |n+1=>dq (dr b n)
noncomputable def fv:MS→ai
 |.bz _ _ b=>b
 |.gw _ b=>b
 |_=>.nil
def cj(b:ai)(i:Nat):ai:=fv (dc (dr b i))
noncomputable def iA(b:List UInt8)(i:Nat):Int:=(b.getD i 0).toNat*256+(b.getD (i+1) 0).toNat
def oJ(b:List UInt8)(i:Nat):Int:=if iA b i≥32768 then iA b i-65536 else iA b i
def m9(b:List UInt8)(i:Nat):Int:=iA b i*65536+iA b (i+2)
noncomputable def aB(x:Int):List UInt8:=[UInt8.ofNat (x/256%256).toNat,UInt8.ofNat (x%256).toNat]
def dI(x:Int):List UInt8:=aB (x/65536)++aB x
theorem fG(x):(aB x).length=2:=rfl
theorem wh(x):(dI x).length=4:=rfl
noncomputable def FL(b:List UInt8):List UInt8:=b++replicate ((4-b.length%4)%4) 0
theorem ly(b):(FL b).length=b.length+(4-b.length%4)%4:=by rw[FL,length_append,length_replicate]
section
theorem Ij(w:δ→AV)(mk:gU→St)(I:List δ→List AV→gU→Prop)(us:List δ):∀acc s1,I us acc s1→(∀u us acc s1,I (u::us) acc s1→∃iB t1,f (w u) acc (mk s1)=some (iB,mk t1)∧I us iB t1)→(∀acc s1,I [] acc s1→k acc (mk s1)=R)→cn k (dS f (us.map w) acc (mk s1))=R:=by
 induction us with
 |nil=>exact fun acc s1 h _ hk=>hk acc s1 h
 |cons u us ih=>exact fun acc s1 h hs hk=>(hs u us acc s1 h).elim fun iB h=>h.elim fun t1 h=>(congrArg _ (nv h.1)).trans (ih iB t1 h.2 hs hk)
theorem Wy(w:δ→AV)(mk:gU→jP→l8→St)(I:List δ→List AV→gU→jP→l8→Prop)(us:List δ):∀acc s1 s2 s3,I us acc s1 s2 s3→(∀u us acc s1 s2 s3,I (u::us) acc s1 s2 s3→∃iB t1 t2 t3,f (w u) acc (mk s1 s2 s3)=some (iB,mk t1 t2 t3)∧I us iB t1 t2 t3)→(∀acc s1 s2 s3,I [] acc s1 s2 s3→k acc (mk s1 s2 s3)=R)→cn k (dS f (us.map w) acc (mk s1 s2 s3))=R:=by
 induction us with
 |nil=>exact fun acc s1 s2 s3 h _ hk=>hk acc s1 s2 s3 h
 |cons u us ih=>exact fun acc s1 s2 s3 h hs hk=>(hs u us acc s1 s2 s3 h).elim fun iB h=>h.elim fun t1 h=>h.elim fun t2 h=>h.elim fun t3 h=>(congrArg _ (nv h.1)).trans (ih iB t1 t2 t3 h.2 hs hk)
theorem qN{eL:Type}{P1 P2:eL→Prop}{G:Prop}(h:∃x1,P1 x1∧P2 x1)(k:∀x1,P1 x1→P2 x1→G):G:=h.elim fun x1 h=>k x1 h.1 h.2
theorem i3{eL:Type}{P1 P2 P3:eL→Prop}{G:Prop}(h:∃x1,P1 x1∧P2 x1∧P3 x1)(k:∀x1,P1 x1→P2 x1→P3 x1→G):G:=h.elim fun x1 h=>k x1 h.1 h.2.1 h.2.2
theorem Y4{eL fX:Type}{P1 P2:eL→fX→Prop}{G:Prop}(h:∃x1 x2,P1 x1 x2∧P2 x1 x2)(k:∀x1 x2,P1 x1 x2→P2 x1 x2→G):G:=h.elim fun x1 h=>h.elim fun x2 h=>k x1 x2 h.1 h.2
theorem Y5{eL fX:Type}{P1 P2 P3:eL→fX→Prop}{G:Prop}(h:∃x1 x2,P1 x1 x2∧P2 x1 x2∧P3 x1 x2)(k:∀x1 x2,P1 x1 x2→P2 x1 x2→P3 x1 x2→G):G:=h.elim fun x1 h=>h.elim fun x2 h=>k x1 x2 h.1 h.2.1 h.2.2
theorem Y6{eL fX:Type}{P1 P2 P3 P4:eL→fX→Prop}{G:Prop}(h:∃x1 x2,P1 x1 x2∧P2 x1 x2∧P3 x1 x2∧P4 x1 x2)(k:∀x1 x2,P1 x1 x2→P2 x1 x2→P3 x1 x2→P4 x1 x2→G):G:=h.elim fun x1 h=>h.elim fun x2 h=>k x1 x2 h.1 h.2.1 h.2.2.1 h.2.2.2
theorem anI{eL fX jO:Type}{P1 P2 P3:eL→fX→jO→Prop}{G:Prop}(h:∃x1 x2 x3,P1 x1 x2 x3∧P2 x1 x2 x3∧P3 x1 x2 x3)(k:∀x1 x2 x3,P1 x1 x2 x3→P2 x1 x2 x3→P3 x1 x2 x3→G):G:=h.elim fun x1 h=>h.elim fun x2 h=>h.elim fun x3 h=>k x1 x2 x3 h.1 h.2.1 h.2.2
theorem anJ{eL fX jO:Type}{P1 P2 P3 P4:eL→fX→jO→Prop}{G:Prop}(h:∃x1 x2 x3,P1 x1 x2 x3∧P2 x1 x2 x3∧P3 x1 x2 x3∧P4 x1 x2 x3)(k:∀x1 x2 x3,P1 x1 x2 x3→P2 x1 x2 x3→P3 x1 x2 x3→P4 x1 x2 x3→G):G:=h.elim fun x1 h=>h.elim fun x2 h=>h.elim fun x3 h=>k x1 x2 x3 h.1 h.2.1 h.2.2.1 h.2.2.2
theorem anK{eL fX jO:Type}{P1 P2 P3 P4 P5:eL→fX→jO→Prop}{G:Prop}(h:∃x1 x2 x3,P1 x1 x2 x3∧P2 x1 x2 x3∧P3 x1 x2 x3∧P4 x1 x2 x3∧P5 x1 x2 x3)(k:∀x1 x2 x3,P1 x1 x2 x3→P2 x1 x2 x3→P3 x1 x2 x3→P4 x1 x2 x3→P5 x1 x2 x3→G):G:=h.elim fun x1 h=>h.elim fun x2 h=>h.elim fun x3 h=>k x1 x2 x3 h.1 h.2.1 h.2.2.1 h.2.2.2.1 h.2.2.2.2
theorem anL{eL fX jO pY:Type}{P1 P2 P3:eL→fX→jO→pY→Prop}{G:Prop}(h:∃x1 x2 x3 x4,P1 x1 x2 x3 x4∧P2 x1 x2 x3 x4∧P3 x1 x2 x3 x4)(k:∀x1 x2 x3 x4,P1 x1 x2 x3 x4→P2 x1 x2 x3 x4→P3 x1 x2 x3 x4→G):G:=h.elim fun x1 h=>h.elim fun x2 h=>h.elim fun x3 h=>h.elim fun x4 h=>k x1 x2 x3 x4 h.1 h.2.1 h.2.2
theorem Y7{eL fX jO pY v9 wa:Type}{P1 P2 P3:eL→fX→jO→pY→v9→wa→Prop}{G:Prop}(h:∃x1 x2 x3 x4 x5 x6,P1 x1 x2 x3 x4 x5 x6∧P2 x1 x2 x3 x4 x5 x6∧P3 x1 x2 x3 x4 x5 x6)(k:∀x1 x2 x3 x4 x5 x6,P1 x1 x2 x3 x4 x5 x6→P2 x1 x2 x3 x4 x5 x6→P3 x1 x2 x3 x4 x5 x6→G):G:=h.elim fun x1 h=>h.elim fun x2 h=>h.elim fun x3 h=>h.elim fun x4 h=>h.elim fun x5 h=>h.elim fun x6 h=>k x1 x2 x3 x4 x5 x6 h.1 h.2.1 h.2.2
theorem anM{eL fX jO pY v9 wa:Type}{P1 P2 P3 P4:eL→fX→jO→pY→v9→wa→Prop}{G:Prop}(h:∃x1 x2 x3 x4 x5 x6,P1 x1 x2 x3 x4 x5 x6∧P2 x1 x2 x3 x4 x5 x6∧P3 x1 x2 x3 x4 x5 x6∧P4 x1 x2 x3 x4 x5 x6)(k:∀x1 x2 x3 x4 x5 x6,P1 x1 x2 x3 x4 x5 x6→P2 x1 x2 x3 x4 x5 x6→P3 x1 x2 x3 x4 x5 x6→P4 x1 x2 x3 x4 x5 x6→G):G:=h.elim fun x1 h=>h.elim fun x2 h=>h.elim fun x3 h=>h.elim fun x4 h=>h.elim fun x5 h=>h.elim fun x6 h=>k x1 x2 x3 x4 x5 x6 h.1 h.2.1 h.2.2.1 h.2.2.2
theorem anN{eL fX jO pY v9 wa α7:Type}{P1 P2:eL→fX→jO→pY→v9→wa→α7→Prop}{G:Prop}(h:∃x1 x2 x3 x4 x5 x6 x7,P1 x1 x2 x3 x4 x5 x6 x7∧P2 x1 x2 x3 x4 x5 x6 x7)(k:∀x1 x2 x3 x4 x5 x6 x7,P1 x1 x2 x3 x4 x5 x6 x7→P2 x1 x2 x3 x4 x5 x6 x7→G):G:=h.elim fun x1 h=>h.elim fun x2 h=>h.elim fun x3 h=>h.elim fun x4 h=>h.elim fun x5 h=>h.elim fun x6 h=>h.elim fun x7 h=>k x1 x2 x3 x4 x5 x6 x7 h.1 h.2
theorem Ku(w:δ→AV)(mk:gU→jP→l8→St)(I:List δ→gU→jP→l8→Prop)(us:List δ):∀s1 s2 s3,I us s1 s2 s3→(∀u us s1 s2 s3,I (u::us) s1 s2 s3→∃t1 t2 t3,b (w u) (mk s1 s2 s3)=some (.next,mk t1 t2 t3)∧I us t1 t2 t3)→(∀s1 s2 s3,I [] s1 s2 s3→kn (mk s1 s2 s3)=R)→cn (gE kn kr) (cG b (us.map w) (mk s1 s2 s3))=R:=by
 induction us with
 |nil=>exact fun s1 s2 s3 h _ hk=>hk s1 s2 s3 h
 |cons u us ih=>exact fun s1 s2 s3 h hs hk=>(hs u us s1 s2 s3 h).elim fun t1 h=>h.elim fun t2 h=>h.elim fun t3 h=>(congrArg _ (jz h.1)).trans (ih t1 t2 t3 h.2 hs hk)
theorem aat(w:δ→AV)(mk:gU→jP→l8→wb→St)(I:List δ→gU→jP→l8→wb→Prop)(us:List δ):∀s1 s2 s3 s4,I us s1 s2 s3 s4→(∀u us s1 s2 s3 s4,I (u::us) s1 s2 s3 s4→∃t1 t2 t3 t4,b (w u) (mk s1 s2 s3 s4)=some (.next,mk t1 t2 t3 t4)∧I us t1 t2 t3 t4)→(∀s1 s2 s3 s4,I [] s1 s2 s3 s4→kn (mk s1 s2 s3 s4)=R)→cn (gE kn kr) (cG b (us.map w) (mk s1 s2 s3 s4))=R:=by
 induction us with
 |nil=>exact fun s1 s2 s3 s4 h _ hk=>hk s1 s2 s3 s4 h
 |cons u us ih=>exact fun s1 s2 s3 s4 h hs hk=>(hs u us s1 s2 s3 s4 h).elim fun t1 h=>h.elim fun t2 h=>h.elim fun t3 h=>h.elim fun t4 h=>(congrArg _ (jz h.1)).trans (ih t1 t2 t3 t4 h.2 hs hk)
theorem aau(w:δ→AV)(mk:gU→jP→l8→wb→Fh→St)(I:List δ→gU→jP→l8→wb→Fh→Prop)(us:List δ):∀s1 s2 s3 s4 s5,I us s1 s2 s3 s4 s5→(∀u us s1 s2 s3 s4 s5,I (u::us) s1 s2 s3 s4 s5→∃t1 t2 t3 t4 t5,b (w u) (mk s1 s2 s3 s4 s5)=some (.next,mk t1 t2 t3 t4 t5)∧I us t1 t2 t3 t4 t5)→(∀s1 s2 s3 s4 s5,I [] s1 s2 s3 s4 s5→kn (mk s1 s2 s3 s4 s5)=R)→cn (gE kn kr) (cG b (us.map w) (mk s1 s2 s3 s4 s5))=R:=by
 induction us with
 |nil=>exact fun s1 s2 s3 s4 s5 h _ hk=>hk s1 s2 s3 s4 s5 h
 |cons u us ih=>exact fun s1 s2 s3 s4 s5 h hs hk=>(hs u us s1 s2 s3 s4 s5 h).elim fun t1 h=>h.elim fun t2 h=>h.elim fun t3 h=>h.elim fun t4 h=>h.elim fun t5 h=>(congrArg _ (jz h.1)).trans (ih t1 t2 t3 t4 t5 h.2 hs hk)
theorem aav(w:δ→AV)(mk:gU→jP→l8→wb→Fh→σ6→St)(I:List δ→gU→jP→l8→wb→Fh→σ6→Prop)(us:List δ):∀s1 s2 s3 s4 s5 s6,I us s1 s2 s3 s4 s5 s6→(∀u us s1 s2 s3 s4 s5 s6,I (u::us) s1 s2 s3 s4 s5 s6→∃t1 t2 t3 t4 t5 t6,b (w u) (mk s1 s2 s3 s4 s5 s6)=some (.next,mk t1 t2 t3 t4 t5 t6)∧I us t1 t2 t3 t4 t5 t6)→(∀s1 s2 s3 s4 s5 s6,I [] s1 s2 s3 s4 s5 s6→kn (mk s1 s2 s3 s4 s5 s6)=R)→cn (gE kn kr) (cG b (us.map w) (mk s1 s2 s3 s4 s5 s6))=R:=by
 induction us with
 |nil=>exact fun s1 s2 s3 s4 s5 s6 h _ hk=>hk s1 s2 s3 s4 s5 s6 h
 |cons u us ih=>exact fun s1 s2 s3 s4 s5 s6 h hs hk=>(hs u us s1 s2 s3 s4 s5 s6 h).elim fun t1 h=>h.elim fun t2 h=>h.elim fun t3 h=>h.elim fun t4 h=>h.elim fun t5 h=>h.elim fun t6 h=>(congrArg _ (jz h.1)).trans (ih t1 t2 t3 t4 t5 t6 h.2 hs hk)
theorem uC(w v:δ→AV)(mk:gU→St)(us:List δ)(s1:gU)(hl:us.length≤16777216)(hs:∀u∈us,∀acc s1,List.length acc<16777216→∃t1,f (w u) acc (mk s1)=some (acc++[v u],mk t1))(hk:∀t1,k (us.map v) (mk t1)=R):cn k (dS f (us.map w) [] (mk s1))=R:=by
 suffices h:∀(l:List δ) acc s1,(∀u∈l,u∈us)→acc++l.map v=us.map v→cn k (dS f (l.map w) acc (mk s1))=R from h us [] s1 (fun _ h=>h) rfl
 intro l
 induction l with
 |nil=>exact fun acc s1 _ e=>(congrArg (k · _) ((append_nil acc).symm.trans e)).trans (hk s1)
 |cons u l ih=>
  intro acc s1 hm e
  have dE:acc.length<16777216:=by have:=congrArg List.length e;rw[length_append,length_map,length_map,length_cons]at this;omega
  exact(hs u (hm u (.head _)) acc s1 dE).elim fun t1 h=>(congrArg _ (nv h)).trans (ih _ t1 (fun x h=>hm x (.tail _ h)) ((append_assoc ..).trans e))
theorem Nb(w v:δ→AV)(mk:gU→jP→St)(us:List δ)(s1:gU)(s2:jP)(hl:us.length≤16777216)(hs:∀u∈us,∀acc s1 s2,List.length acc<16777216→∃t1 t2,f (w u) acc (mk s1 s2)=some (acc++[v u],mk t1 t2))(hk:∀t1 t2,k (us.map v) (mk t1 t2)=R):cn k (dS f (us.map w) [] (mk s1 s2))=R:=by
 suffices h:∀(l:List δ) acc s1 s2,(∀u∈l,u∈us)→acc++l.map v=us.map v→cn k (dS f (l.map w) acc (mk s1 s2))=R from h us [] s1 s2 (fun _ h=>h) rfl
 intro l
 induction l with
 |nil=>exact fun acc s1 s2 _ e=>(congrArg (k · _) ((append_nil acc).symm.trans e)).trans (hk s1 s2)
 |cons u l ih=>
  intro acc s1 s2 hm e
  have dE:acc.length<16777216:=by have:=congrArg List.length e;rw[length_append,length_map,length_map,length_cons]at this;omega
  exact(hs u (hm u (.head _)) acc s1 s2 dE).elim fun t1 h=>h.elim fun t2 h=>(congrArg _ (nv h)).trans (ih _ t1 t2 (fun x h=>hm x (.tail _ h)) ((append_assoc ..).trans e))
theorem afN(w v:δ→AV)(mk:gU→jP→l8→St)(us:List δ)(s1:gU)(s2:jP)(s3)(hl:us.length≤16777216)(hs:∀u∈us,∀acc s1 s2 s3,List.length acc<16777216→∃t1 t2 t3,f (w u) acc (mk s1 s2 s3)=some (acc++[v u],mk t1 t2 t3))(hk:∀t1 t2 t3,k (us.map v) (mk t1 t2 t3)=R):cn k (dS f (us.map w) [] (mk s1 s2 s3))=R:=by
 suffices h:∀(l:List δ) acc s1 s2 s3,(∀u∈l,u∈us)→acc++l.map v=us.map v→cn k (dS f (l.map w) acc (mk s1 s2 s3))=R from h us [] s1 s2 s3 (fun _ h=>h) rfl
 intro l
 induction l with
 |nil=>exact fun acc s1 s2 s3 _ e=>(congrArg (k · _) ((append_nil acc).symm.trans e)).trans (hk s1 s2 s3)
 |cons u l ih=>
  intro acc s1 s2 s3 hm e
  have dE:acc.length<16777216:=by have:=congrArg List.length e;rw[length_append,length_map,length_map,length_cons]at this;omega
  exact(hs u (hm u (.head _)) acc s1 s2 s3 dE).elim fun t1 h=>h.elim fun t2 h=>h.elim fun t3 h=>(congrArg _ (nv h)).trans (ih _ t1 t2 t3 (fun x h=>hm x (.tail _ h)) ((append_assoc ..).trans e))
end
theorem DH{a b k i:Nat}(h:a≤k*i)(h2:b≤k):a+b≤k*(i+1):=mul_succ k i▸add_le_add h h2
theorem sJ{b:List UInt8}{k:Nat}(h:b.length≤k):(FL b).length≤k+3:=by
 rw[ly];exact add_le_add h (le_of_lt_succ (mod_lt _ (by decide)))
theorem Iw{n:Nat}(h:12≤n):min 8 n+4+(n-12)=n:=by
 rw[min_eq_left (le_trans (by decide) h)];exact Nat.add_sub_of_le h
set_option compiler.extract_closed false
local macro_rules (kind := Lean.Parser.Tactic.simpAutoUnfold)
  | s =>
    let f (s : String) := (s.splitOn " ").toArray.flatMap fun s => #[pT ("3.simpLemma 0null 0null " ++ s), .atom .none ","]
    let a := f "aaP gtS akO stS nb0 nbS nq ntf tan WD Vz W5 W2 W3 SV SU eQ aeZ aeW adv aeU aeV aeT aeP aeO agS agQ agX agZ agP of_none agU agR agW amu UE aaL aaJ aaK aaI amm ack Yo amy amx Ye Yc X2 Yj Yk X8 X9 X5 Yg Yn Yh Yd X1 Ym Yl Yb X6 X7 Yi X3 X4 afb ae6 ad9 ae9 ae5 ad7 ad8 aff afe aev aeu agF agG ahc ahd Uc Ue Ud Ug Uh Wt Wv Wu Ww Wx neg_eq not_eq UG Wl Wm Wn Wq Wo acb ab9 aca ab8 Y3 Y2 Y1 Y0 YZ YY amo afd XJ SJ SK alQ alS alR alT alU ak3 ak4 ak5 ak6 WI WJ WK Vw ajf aje ajz ajy Vt Vu Vv afS afW afT afV afU Us Ut Uw UA UB Ux Uy Uz YW YX YU YV YR YO YQ YT amV PN amP amQ amR amX amY amO amS amW amU amT SD Sy Sw Sv agA agC agB Up Uq aid ah9 aia aic ah4 Un Um ah8 ah6 ahV ah1 ah2 ahW ah0 ahX XX ajW ajV aj2 ajX ajY So Sq dR Z8 Z9 aay aar adt ac1 ac3 ac8 ac6 ac5 ac4 ac9 Y8 S4 aml Zc Zd aiT UD aeG aeD Ua alI alJ agD agE ajE ajC ajD adF ajH ajF ajG adC adD adE age agf Rt Ru Rv Rw Rx Ry Rz RB RD RE RF RG RI RJ RL RN RP RQ RS RU RX RY RZ R0 R1 R2 R3 R4 R5 R6 R7 R8 R9 Sa Sb Sd Se Q7 Q8 Q9 Ra Rb Rc Rd Rf Rg Rh Ri Rj Rk Rl Rn Ro Rp Rq Rr afs aft afu afv afw afx afy afz afA afB afC afD afE afF afG afH afI afJ afK afi afj afk afl afm afn afo afp afq afr ajQ Tv TY TO TN TF TK Tz TA Tw Tx Vi Vg Ve Vc Va HZ U9 Vk Vl Vb sq ad4 ad5 rd ad6 am0 am2 am1 rg1 rg2 aeF i_i i_b mx mn LC acu acq alW acs agJ agI aaE ak7 Ez List.map_cons List.map_nil List.nil_append List.cons_append List.replicate_succ List.replicate_zero List.length_cons List.length_nil List.take_succ_cons List.take_zero Nat.reduceAdd Nat.reduceSub if_true if_false XH XG Option.map_some List.drop_zero List.drop_succ_cons Nat.add_zero"
    let b := f "List.length_append List.length_replicate List.length_map List.length_take List.length_drop List.length_nil List.length_cons List.length_range fG wh ly"
    return pT "6.simp 'simp $ 1null 5.discharger '( 1patternIgnore 1token.disch 'disch ':= 2.first 'first 5null 2group '| 2.withUnfoldingAll 'with_unfolding_all 2.exact 'exact 2Lean.Parser.Term.app rB 1null rfl 2group '| 1.assumption 'assumption 2group '| 2.decide 'decide 1.optConfig 0null 2group '| 2.lia 'lia 1.optConfig 0null 2group '| 1.tacticSeq1Indented 3null 6.simp 'simp 1.optConfig 0null 0null 1null 'only 3null '[ $a '] 0null '; 2.first 'first 2null 2group '| 1.assumption 'assumption 2group '| 2.lia 'lia 1.optConfig 0null ') 1null 'only 3null '[ $aa '] 0null" #[s[1], Lean.mkNullNode b, Lean.mkNullNode (a ++ s[4][1].getArgs)]
local macro_rules (kind := Lean.Parser.Tactic.«tacticExists_,,»)
  | s => return pT "1.tacticSeq1Indented 3null 2.refine 'refine 2Lean.Parser.Term.app Eq.trans 2null 2Lean.Parser.Term.app $aaa 5null 5Lean.Parser.Term.namedArgument '( d ':= $ ') 5Lean.Parser.Term.namedArgument '( st ':= $aa ') rfl rfl rfl 2Lean.Parser.Term.syntheticHole '? '_ '; 6.dsimp 'dsimp 1.optConfig 0null 0null 1null 'only 3null '[ 3null 3.simpLemma 0null 0null $ ', 3.simpLemma 0null 0null $a '] 0null" #[s[1][0], s[1][2], s[1][4], Lean.mkIdent `fM]
theorem l7{n b}{i:Int}(h0:0≤i)(h1:i+2≤b.length):oW (n+1) 72 none [.bytes b,.int i]=some (.val (.int (iA b i.toNat)),none):=by
 exists Kc,G3,[.val (.bytes b),.val (.int i)]
 simp![]
 rw[iA,Int.toNat_add h0 (by decide)];rfl
theorem Es{n b}{i:Int}(h0:0≤i)(h1:i+2≤b.length):oW (n+2) 79 none [.bytes b,.int i]=some (.val (.int (oJ b i.toNat)),none):=by
 exists J4,GW,[.val (.bytes b),.val (.int i),.no]
 unfold oJ
 split
 ·simp![l7]
 ·simp![l7]
theorem vW{n b}{i:Int}(h0:0≤i)(h1:i+4≤b.length):oW (n+2) 86 none [.bytes b,.int i]=some (.val (.int (m9 b i.toNat)),none):=by
 exists Kd,G4,[.val (.bytes b),.val (.int i)]
 simp![l7]
 rw[m9,Int.toNat_add h0 (by decide)];rfl
theorem gO:oW (n+1) 93 none [.int x]=some (.val (.bytes (aB x)),none):=by
 exists JO,GG,[.val (.int x)]
 simp![]
 rfl
theorem pD:oW (n+2) 100 none [.int x]=some (.val (.bytes (dI x)),none):=by
 exists JP,GH,[.val (.int x)]
 simp![gO,fG,lim]
 rfl
theorem w9{L n:Nat}:cut L (n:Int)=min n L:=if_pos (natCast_nonneg n)
theorem NH{α:Type}(b:List α)(h:n+m≤b.length):part b (some (n:Int)) (some ((n+m:Nat):Int))=(b.drop n).take m:=by
 show(b.take (cut b.length ((n+m:Nat):Int))).drop (cut b.length (n:Int))=_
 rw[w9,w9,min_eq_left h,min_eq_left (le_trans (le_add_right n m) h),List.drop_take,add_sub_cancel_left]
theorem rH{α:Type}(b:List α){i s:Int}(h0:0≤i)(h1:0≤s)(h2:i+s≤b.length):part b (some i) (some (i+s))=(b.drop i.toNat).take s.toNat:=by
 refine(eq_ofNat_of_zero_le h0).elim fun n e=>(eq_ofNat_of_zero_le h1).elim fun m f=> ?_
 subst e f
 exact NH b (ofNat_le.mp h2)
theorem uK{n b}{i s:Int}(h0:0≤i)(h1:0≤s)(h2:i+s≤b.length):oW (n+1) 107 none [.bytes b,.int i,.int s]=some (.val (.bytes ((b.drop i.toNat).take s.toNat)),none):=by
 exists JL,GB,[.val (.bytes b),.val (.int i),.val (.int s)]
 simp![rH]
theorem ZX{L:Nat}:(4-(L:Int)%4)%4=((4-L%4)%4:Nat):=congrArg (· %4) (Int.ofNat_sub (le_of_lt (mod_lt L (by decide)))).symm
theorem tR{n b}(h:b.length≤1000000):oW (n+1) 114 none [.bytes b]=some (.val (.bytes (FL b)),none):=by
 exists JE,Gz,[.val (.bytes b)]
 have hm:(4-b.length%4)%4≤3:=le_of_lt_succ (mod_lt _ (by decide))
 unfold FL
 generalize hk:(4-b.length%4)%4=m at*
 simp![ZX,hk,toNat_natCast,length_replicate,lim]
theorem ahf(b:List UInt8){n:Nat}:(part b (some (n:Int)) (some ((n+4:Nat):Int))).length≤8:=by
 show((b.take (cut b.length ((n+4:Nat):Int))).drop (cut b.length (n:Int))).length≤8
 rw[w9,w9,length_drop,length_take]
 refine sub_le_iff_le_add.mpr ((Nat.le_total n b.length).elim (fun h=> ?_) fun h=> ?_)
 ·rw[min_eq_left h];exact le_trans (le_trans (Nat.min_le_left _ _) (Nat.min_le_left _ _)) (by omega)
 ·rw[Nat.min_eq_right h];exact le_trans (min_le_right _ _) (le_add_left _ _)
noncomputable def A7(b:List UInt8):Nat→Int
 |0=>0
 |i+1=>A7 b i+qk (part (FL b) (some (0+4*(i:Int))) (some (0+4*(i:Int)+4))) 0
def SM(b:List UInt8):Int:=A7 b (ij 0 (FL b).length 4).length%4294967296
theorem EE(h:b.length≤1000000):oW (n+2) 121 none [.bytes b]=some (.val (.int (SM b)),none):=by
 exists J9,G0,[.val (.bytes b),.no,.no,.no]
 have hl:=sJ h
 have hq:(0:Int)<4∧(-1099511627776:Int)≤0∧(0:Int)≤1099511627776∧(-1099511627776:Int)≤((FL b).length:Int)∧((FL b).length:Int)≤1099511627776∧(4:Int)≤1099511627776:=have z:=AS hl (by decide);⟨by decide,by decide,by decide,z.1,z.2,by decide⟩
 simp![tR,rg3]
 generalize hX:cG _ _ _=X
 obtain⟨s,rfl⟩:=tX hX (σ:=Slot) (fun i s=>[.val (.bytes b),.val (.int (A7 b i)),.val (.bytes (FL b)),s]) .no rfl (fun i x s hx=>by
  obtain⟨rfl,h2⟩:=OJ (by lia) hx
  have:(part (FL b) (some (0+4*(i:Int))) (some (0+4*(i:Int)+4))).length≤8:=by rw[Int.zero_add];exact ahf (FL b) (n:=4*i)
  exact⟨_,by simp![];rfl⟩)
 simp![]
 rfl
set_option genCtorIdx true in
inductive Tag where|ml|mz|head|nP|mC|kU|mN|n8
 deriving DecidableEq
def Tag.s:Tag→Str
 |.ml=>rV|.mz=>lP|.head=>bq|.nP=>pK|.mC=>lQ|.kU=>gp|.mN=>lR|.n8=>oj
noncomputable def Tag.b:Tag→List UInt8
 |.ml=>[99,109,97,112]|.mz=>[103,108,121,102]|.head=>[104,101,97,100]|.nP=>[104,104,101,97]|.mC=>[104,109,116,120]
 |.kU=>[107,101,114,110]|.mN=>[108,111,99,97]|.n8=>[109,97,120,112]
theorem Tag.wJ(t:Tag):t.b.length=4:=by cases t<;>rfl
theorem Tag.AA(t u:Tag):(t.s==u.s)=decide (t=u):=by cases t<;>cases u<;>rfl
noncomputable abbrev TL:=List (Tag×List UInt8)
noncomputable def enc(M:List (Tag×AV)):List (AV×AV):=M.map fun p=>(.str p.1.s,p.2)
noncomputable def bv(L:TL):List (Tag×AV):=L.map fun p=>(p.1,.bytes p.2)
theorem Yq(M)(t:Tag):(enc M).all (fun p=>kind p.1==kind (AV.str t.s)&&keyOk p.1)=true:=
 all_eq_true.mpr fun p hp=>(mem_map.mp hp).elim fun q h=>h.2▸rfl
theorem Yr(M:List (Tag×AV))(h:(M.map (·.1)).Nodup):jU (enc M)=true:=by
 induction M with
 |nil=>rfl
 |cons p M ih=>
  have h:=nodup_cons.mp h
  refine Bool.and_eq_true_iff.mpr ⟨all_eq_true.mpr fun q hq=>(mem_map.mp hq).elim fun r hr=>hr.2▸ ?_,ih h.2⟩
  show(!(p.1.s==r.1.s))=true
  rw[Tag.AA,decide_eq_false fun(e:p.1=r.1)=>h.1 (show p.1∈_ from e▸mem_map_of_mem (f:=Prod.fst) hr.1)];rfl
theorem xh(h:(M.map (·.1)).Nodup)(hl:M.length≤1000)(t:Tag):c9 (enc M) (.str t.s)=true:=by
 show(true&&(enc M).all _&&jU (enc M)&&ble (enc M).length 1000)=true
 rw[Yq M t,Yr M h,enc,length_map,Nat.ble_eq_true_of_le hl];rfl
theorem IL(h:(M.map (·.1)).Nodup)(hm:(t,v)∈M):cQ (enc M) (.str t.s)=some v:=by
 induction M with
 |nil=>exact nomatch hm
 |cons p M ih=>
  have h:=nodup_cons.mp h
  show sw (p.1.s==t.s) (some p.2) (cQ (enc M) (.str t.s))=some v
  rw[Tag.AA]
  refine(mem_cons.mp hm).elim (fun e=>by rw[←e,decide_eq_true rfl];rfl) fun e=> ?_
  rw[decide_eq_false fun(z:p.1=t)=>h.1 (show p.1∈_ from z▸mem_map_of_mem (f:=Prod.fst) e)]
  exact ih h.2 e
theorem IM(h:t∉M.map (·.1)):cQ (enc M) (.str t.s)=none:=by
 induction M with
 |nil=>rfl
 |cons p M ih=>
  have h:=not_or.mp fun q=>h (mem_cons.mpr q)
  show sw (p.1.s==t.s) (some p.2) (cQ (enc M) (.str t.s))=none
  rw[Tag.AA,decide_eq_false fun e=>h.1 e.symm]
  exact ih h.2
theorem IP(v)(h:t∉M.map (·.1)):dh (enc M) (.str t.s) v=enc (M++[(t,v)]):=by
 induction M with
 |nil=>rfl
 |cons p M ih=>
  have h:=not_or.mp fun q=>h (mem_cons.mpr q)
  show sw (p.1.s==t.s) ((.str p.1.s,v)::enc M) ((.str p.1.s,p.2)::dh (enc M) (.str t.s) v)=_
  rw[Tag.AA,decide_eq_false fun e=>h.1 e.symm]
  exact congrArg (_:: ·) (ih h.2)
abbrev cP(M:TL):AV:=.inst 171 [(cu,.aq (enc (bv M)))]
structure TB (M L:TL):Prop where
 tags:oz ((enc (bv M)).map (·.1))=some (L.map fun p=>.str p.1.s)
 mem:∀p,p∈L→p∈M
 nd:(M.map (·.1)).Nodup
 kh:(L.map (·.1)).Nodup
 Kj:M.length≤1000
 nB:L.length≤8
 len:∀p∈L,p.2.length≤100000
theorem wX(M:TL):(bv M).map (·.1)=M.map (·.1):=by unfold bv;rw[map_map];rfl
section
variable (h:TB M L)
include h
theorem TB.ok(t:Tag):c9 (enc (bv M)) (.str t.s)=true:=xh (by rw[wX];exact h.nd) (by unfold bv;rw[length_map];exact h.Kj) t
theorem TB.get(hm:(t,b)∈L):cQ (enc (bv M)) (.str t.s)=some (.bytes b):=IL (by rw[wX];exact h.nd) (mem_map.mpr ⟨_,h.mem _ hm,rfl⟩)
theorem TB.sub(hm:(t,b)∈L):bt (.aq (enc (bv M))) (.str t.s)=some (.bytes b):=by
 show aJ (c9 _ _) (cQ _ _)=_
 rw[h.ok,h.get hm];rfl
theorem TB.fQ(hm:(t,b)∈L):x9 (.str t.s) (.aq (enc (bv M)))=some true:=by
 show aJ (c9 _ _) (some (cQ _ _).isSome)=_
 rw[h.ok,h.get hm];rfl
theorem E5:oW (n+1) 154 none [cP M]=some (.fresh (.lst (L.map fun p=>.str p.1.s)),none):=by
 exists Jo,Gn,[.val (cP M)]
 have:aW .sorted [.aq (enc (bv M))]=some (.lst (L.map fun p=>.str p.1.s)):=by
  show aw (oz _) _=_
  rw[h.tags];rfl
 simp![this]
theorem sz(hm:(t,b)∈L):oW (n+1) 168 none [cP M,.str t.s]=some (.val (.bytes b),none):=by
 exists Jn,Gm,[.val (cP M),.val (.str t.s)]
 have:bh .kZ (.str t.s) (.aq (enc (bv M)))=some false:=by
  show aw (x9 _ _) _=_
  rw[h.fQ hm];rfl
 simp![this,h.sub hm]
theorem KS(hm:(t,b)∈L):oW (n+1) 161 none [cP M,.str t.s]=some (.val (.bool true),none):=by
 exists BU,Bc,[.val (cP M),.val (.str t.s)]
 have:bh .fQ (.str t.s) (.aq (enc (bv M)))=some true:=h.fQ hm
 simp![this]
theorem abc(hm:t∉M.map (·.1)):oW (n+1) 161 none [cP M,.str t.s]=some (.val (.bool false),none):=by
 exists BU,Bc,[.val (cP M),.val (.str t.s)]
 have:bh .fQ (.str t.s) (.aq (enc (bv M)))=some false:=by
  show aJ (c9 _ _) (some (cQ _ _).isSome)=_
  rw[h.ok,IM (by rw[wX];exact hm)];rfl
 simp![this]
end
theorem al4(t:Tag):oW (n+1) 133 none [.str t.s]=some (.val (.bytes t.b),none):=oR (by cases t<;>kernel_rfl)
theorem al5{n}(t:Tag){b}{i:Int}(h0:0≤i)(h1:i+4≤b.length)(h2:(b.drop i.toNat).take 4=t.b):oW (n+2) 128 none [.bytes b,.int i]=some (.val (.str t.s),none):=by
 exists Kb,G2,[.val (.bytes b),.val (.int i),.no,.no]
 simp![uK]
 rw[show(4:Int).toNat=4 from rfl,h2]
 cases t<;>kernel_rfl
noncomputable def PH(b:List UInt8):List UInt8:=b.take 8++replicate 4 0++b.drop 12
theorem wj(h:12≤b.length):(PH b).length=b.length:=by
 unfold PH;simp only[length_append,length_take,length_drop,length_replicate];exact Iw h
theorem D7{α:Type}(b:List α){i:Int}(h0:0≤i)(h2:i≤b.length):part b none (some i)=b.take i.toNat:=by
 unfold part cut
 simp only[h0,if_true]
 rw[min_eq_left (by lia),drop_zero]
theorem D5{α:Type}(b:List α){i:Int}(h0:0≤i)(h2:i≤b.length):part b (some i) none=b.drop i.toNat:=by
 unfold part cut
 simp only[h0,if_true]
 rw[min_eq_left (by lia),List.take_length]
theorem NJ{n b}(h:12≤b.length)(h2:b.length≤1000000):oW (n+1) 217 none [.bytes b]=some (.val (.bytes (PH b)),none):=by
 exists JN,GD,[.val (.bytes b)]
 simp![D7,D5]
 rfl
def hb(t:Tag)(b:List UInt8):List UInt8:=if t=.head then PH b else b
theorem abi(h:t=.head→12≤b.length):(hb t b).length=b.length:=by
 unfold hb;split
 ·exact wj (h (by assumption))
 ·rfl
theorem xj(t:Tag):bh .eq (.str t.s) (.str bq)=some (decide (t=.head)):=by cases t<;>rfl
theorem al1(t:Tag)(h:t=.head→12≤b.length)(h2:b.length≤1000000):oW (n+3) 224 none [.str t.s,.bytes b]=some (.val (.int (SM (hb t b))),none):=by
 exists Ka,G1,[.val (.str t.s),.val (.bytes b)]
 by_cases e:t=.head
 ·have:=wj (h e)
  simp![xj,NJ (h e),EE,hb,e]
 ·simp![xj,EE,hb,e]
theorem alL(h0:1≤k)(h1:k≤500):∃p e:Int,oW (n+1) 231 none [.int k]=some (.val (.tup [.int p,.int e]),none):=by
 rw[fM (d:=B8) (st:=[.val (.int k),.no,.no]) rfl rfl rfl]
 dsimp only[B8,GZ]
 simp![m6]
 generalize hX:gS _ _ _ _=X
 obtain⟨⟨p,e⟩,rfl,-,-⟩:=amD hX (σ:=Int×Int) (fun s=>[.val (.int k),.val (.int s.1),.val (.int s.2)]) (fun s=>1≤s.1∧s.1≤500) (fun _=>True) (fun s=>(500-s.1).toNat) (fun s hs=>by
  obtain⟨h2,h3⟩:=hs
  by_cases h4:s.1*2≤k
  ·right
   exact⟨by simp![];rw[decide_eq_true h4],⟨_,_⟩,by simp![];rfl,by dsimp only;lia,by dsimp only;lia⟩
  ·left
   exact⟨by simp![];rw[decide_eq_false h4],trivial⟩) (1,0) rfl (by decide) (by decide)
 simp![]
 exact⟨_,_,rfl⟩
theorem E0{L:TL}{i:Nat}(h:(L.map fun p=>AV.str p.1.s)[i]? =some x):∃t b,L[i]? =some (t,b)∧x=.str t.s∧(t,b)∈L∧i<L.length:=by
 rw[getElem?_map,map_eq_some_iff]at h
 obtain⟨⟨t,b⟩,h1,rfl⟩:=h
 exact⟨t,b,h1,rfl,mem_of_getElem? h1,(List.getElem?_eq_some_iff.mp h1).1⟩
theorem sA{α:Type}{L:List α}{i:Nat}{p:α}(h:L[i]? =some p):L.take (i+1)=L.take i++[p]:=by rw[take_add_one,h];rfl
def md(Q:Nat→Int)(i:Nat)(p:Tag×List UInt8):List UInt8:=p.1.b++dI (SM (hb p.1 p.2))++dI (Q i)++dI p.2.length
theorem Ft(Q i p):(md Q i p).length=16:=by simp only[md,length_append,Tag.wJ,wh]
noncomputable def fH(Q:Nat→Int)(L:TL):Nat→List UInt8
 |0=>[]
 |i+1=>fH Q L i++match L[i]? with
  |some p=>md Q i p
  |none=>[]
theorem sQ(Q)(L)(i):fH Q L (i+1)=fH Q L i++match L[i]? with|some p=>md Q i p|none=>[]:=rfl
theorem wo(Q L):∀i,(fH Q L i).length≤16*i
 |0=>le_refl _
 |i+1=>by
  have:=wo Q L i
  rw[sQ,length_append]
  cases L[i]? with
  |none=>simp;lia
  |some p=>simp only[Ft];lia
theorem sR(Q)(L:TL):∀i,i≤L.length→(fH Q L i).length=16*i
 |0,_=>rfl
 |i+1,hi=>by
  rw[sQ,length_append,sR Q L i (by lia),getElem?_eq_getElem hi]
  simp only[Ft];lia
def iX(k:Nat)(p e:Int):List UInt8:=dI 65536++aB k++aB (p*16)++aB e++aB ((k-p)*16)
theorem oF(k p e):(iX k p e).length=12:=rfl
theorem XW{n M L PD}(h:TB M L)(hL:1≤L.length)(hh:∀b,(Tag.head,b)∈L→12≤b.length)(Q:Nat→Int)(hQ:∀i t b,L[i]? =some (t,b)→bt (.aq PD) (.str t.s)=some (.int (Q i))):
  ∃p e,oW (n+4) 238 none [cP M,.aq PD]=some (.val (.bytes (iX L.length p e++fH Q L L.length)),none):=by
 obtain⟨p,e,hs⟩:=alL (n:=n+2) (k:=L.length) (by lia) (by have:=h.nB;lia)
 refine⟨p,e,?_⟩
 exists JD,Gy,[.val (cP M),.val (.aq PD),.no,.no,.no,.no,.no,.no]
 have h1:¬(L.length:Int)<1:=by lia
 have h2:(if(1:Int)<(L.length:Int)then(L.length:Int)else 1)=L.length:=by split<;>lia
 simp![E5 h,length_map,h2,hs,pD,gO]
 refine lG (σ:=Slot×Slot) (fun i s=>[.val (cP M),.val (.aq PD),.val (.int L.length),.val (.int p),.val (.int e),.val (.bytes (iX L.length p e++fH Q L i)),s.1,s.2]) (.no,.no) rfl (fun i x s hx=>by
  refine Y6 (E0 hx) fun t b h3 C2 h4 h5=> ?_
  subst C2
  have h6:=wo Q L i
  have h7:=h.nB
  have h8:=h.len _ h4
  have h9:=t.wJ
  have ha:=oF L.length p e
  dsimp only at h8
  refine⟨(.val (.str t.s),.val (.bytes b)),?_⟩
  simp![sz h h4,al4,al1 t (fun e=>hh b (e▸h4)),hQ i t b h3,pD]
  rw[sQ,h3]
  simp only[md,append_assoc]) fun s=> ?_
 simp![length_map]
def dO(L:TL)(i:Nat):Nat:=((L.take i).map fun p=>FL p.2).flatten.length
theorem rE{L:TL}{i t b}(h:L[i]? =some (t,b)):dO L (i+1)=dO L i+(FL b).length:=by
 unfold dO
 rw[sA h];simp
theorem yR(h:∀p∈L,p.2.length≤100000):∀i,i≤L.length→dO L i≤100003*i
 |0,_=>le_refl _
 |i+1,hi=>by
  have h2:L[i]? =some L[i]:=getElem?_eq_getElem hi
  have h1:=yR h i (le_of_lt hi)
  have h3:=h L[i] (getElem_mem hi)
  rw[rE (t:=L[i].1) (b:=L[i].2) h2]
  exact DH h1 (sJ h3)
theorem DV(L:TL)(i j:Nat)(h:i≤j):dO L i≤dO L j:=by
 unfold dO
 rw[←Nat.add_sub_of_le h,List.take_add,map_append,flatten_append,length_append]
 exact le_add_right ..
def QL(L:TL)(i:Nat):Int:=12+16*(L.length:Int)+(dO L i:Int)
def hY(L:TL)(t:Tag):Int:=QL L ((L.map (·.1)).idxOf t)
theorem yU(nd:(L.map (·.1)).Nodup)(h:L[i]? =some (t,b)):hY L t=QL L i:=by
 unfold hY
 have h2:(L.map (·.1))[i]? =some t:=by rw[getElem?_map,h];rfl
 obtain⟨h3,h4⟩:=List.getElem?_eq_some_iff.mp h2
 rw[←h4,List.Nodup.idxOf_getElem nd]
def eM(L:TL)(i:Nat):List (Tag×AV):=(L.take i).map fun p=>(p.1,.int (hY L p.1))
theorem A4(L i):(eM L i).map (·.1)=(L.map (·.1)).take i:=by unfold eM;rw[map_map,←List.map_take];rfl
def blob(f:Tag→List UInt8→List UInt8)(L:TL)(i:Nat):List UInt8:=((L.take i).map fun p=>FL (f p.1 p.2)).flatten
theorem Bm{f L i t b}(h:L[i]? =some (t,b)):blob f L (i+1)=blob f L i++FL (f t b):=by
 unfold blob
 rw[sA h];simp
theorem qm(h:∀p∈L,(f p.1 p.2).length=p.2.length):∀i,i≤L.length→(blob f L i).length=dO L i
 |0,_=>rfl
 |i+1,hi=>by
  have h2:L[i]? =some (L[i].1,L[i].2):=getElem?_eq_getElem hi
  rw[Bm h2,rE h2,length_append,qm h i (by lia),ly,ly,h L[i] (getElem_mem hi)]
theorem DQ:∀{l:List α},l.Nodup→∀{i} {a},l[i]? =some a→a∉l.take i
 |[],_,i,a,h=>by simp at h
 |x::xs,nd,0,a,h=>by simp
 |x::xs,nd,i+1,a,h=>by
  rw[nodup_cons]at nd
  rw[getElem?_cons_succ]at h
  rw[take_succ_cons,mem_cons,not_or]
  exact⟨fun e=>nd.1 (e▸mem_of_getElem? h),DQ nd.2 h⟩
def gV(L:TL)(p e:Int):List UInt8:=iX L.length p e++fH (QL L) L L.length++blob hb L L.length
def WR(L:TL)(p e:Int):List UInt8:=(gV L p e).take (hY L .head+8).toNat++dI ((2981146554-SM (gV L p e))%4294967296)++(gV L p e).drop (hY L .head+12).toNat
theorem abu{L:TL}{hd:List UInt8}(nd:(L.map (·.1)).Nodup)(hm:(Tag.head,hd)∈L)(b:List UInt8)(hb:(Tag.head,b)∈L):b=hd:=by
 refine(mem_iff_getElem?.mp hm).elim fun i hi=>(mem_iff_getElem?.mp hb).elim fun j hj=> ?_
 have ex:∀{k:Nat} {x:List UInt8},L[k]? =some (Tag.head,x)→(L.map (·.1)).idxOf Tag.head=k:=fun {k x} h=>by
  have h1:=List.getElem?_eq_some_iff.mp h
  refine h1.elim fun h1 h2=> ?_
  have:(L.map (·.1))[k]'(by rw[length_map];exact h1)=Tag.head:=by rw[List.getElem_map,h2]
  rw[←this,List.Nodup.idxOf_getElem nd]
 have:=(ex hi).symm.trans (ex hj)
 subst this
 exact congrArg Prod.snd (Option.some.inj (hj.symm.trans hi))
theorem amN{n s}{i:Nat}(h:TB M L)(h3:L[i]? =some (t,b))(h4:(t,b)∈L):eG (.one 3) (bj ag.T (oW (n+4)) 1000 (cj qj 2)) (.str t.s) [.val (cP M),.own (.aq (enc (eM L i))),.val (.int (QL L i)),s,.no,.no,.no,.no]=some (.next,[.val (cP M),.own (.aq (enc (eM L (i+1)))),.val (.int (QL L (i+1))),.val (.str t.s),.no,.no,.no,.no]):=by
 have h8:b.length≤100000:=h.len _ h4
 have h6:t∉(eM L i).map (·.1):=by
  rw[A4];exact DQ h.kh (by rw[getElem?_map,h3];rfl)
 have hn:(eM L i).length≤8:=by
  unfold eM;rw[length_map,length_take];exact le_trans (min_le_right ..) h.nB
 have h7:(enc (eM L i)).length<1000000:=by unfold enc;rw[length_map];exact lt_of_le_of_lt hn (by decide)
 have h9:c9 (enc (eM L i)) (.str t.s)=true:=xh (by rw[A4];exact h.kh.sublist (take_sublist _ _)) (le_trans hn (by decide)) t
 have e1:eM L (i+1)=eM L i++[(t,.int (QL L i))]:=by
  unfold eM
  rw[sA h3,map_append,map_cons,map_nil,yU h.kh h3]
 have e2:QL L (i+1)=QL L i+((FL b).length:Int):=by
  unfold QL;rw[rE h3,natCast_add,Int.add_assoc (12+_)]
 dsimp only[cj,fv,dc,dq,dr,qj]
 rw[e1,e2]
 simp![sz h h4,tR,pM h9 h7,IP _ h6]
theorem amM{n s1 s2 P Q}{D:List UInt8}(h:TB M L)(h4:(t,b)∈L)(hh:t=.head→12≤b.length)(hD:D.length≤2000000):eG (.one 3) (bj ag.T (oW (n+4)) 1000 (cj qj 4)) (.str t.s) [.val (cP M),.val P,.val Q,s1,.val (.bytes D),s2,.no,.no]=some (.next,[.val (cP M),.val P,.val Q,.val (.str t.s),.val (.bytes (D++FL (hb t b))),.val (.bytes b),.no,.no]):=by
 have h8:b.length≤100000:=h.len _ h4
 dsimp only[cj,fv,dc,dq,dr,qj]
 by_cases e:t=.head
 ·subst e
  have hp:=wj (hh rfl)
  have hf:=sJ (b:=PH b) (hp.symm▸h8)
  simp![sz h h4,tR,xj,NJ,hb]
 ·have hf:=sJ h8
  simp![sz h h4,tR,xj,hb,e]
theorem amL{n M L hd}(h:TB M L)(hm:(Tag.head,hd)∈L)(hh:12≤hd.length):∃p e,oW (n+5) 245 none [cP M]=some (.val (.bytes (WR L p e)),none):=by
 have hL:1≤L.length:=List.length_pos_of_mem hm
 have qW:∀b,(Tag.head,b)∈L→12≤b.length:=fun b hb=>abu h.kh hm b hb▸hh
 have Li:((eM L L.length).map (·.1)).Nodup:=by rw[A4,take_of_length_le (by simp)];exact h.kh
 have hlen:(eM L L.length).length≤1000:=by have:=h.nB;unfold eM;simp;lia
 have Lq:∀t b,(t,b)∈L→bt (.aq (enc (eM L L.length))) (.str t.s)=some (.int (hY L t)):=fun t b hm=>by
  show aJ (c9 _ _) (cQ _ _)=_
  rw[xh Li hlen]
  refine IL Li ?_
  unfold eM
  rw[take_of_length_le (le_refl _)]
  exact mem_map.mpr ⟨_,hm,rfl⟩
 have qU:∀p∈L,(hb p.1 p.2).length=p.2.length:=fun p hp=>abi (fun e=>qW p.2 (e▸hp))
 obtain⟨p,e,hs⟩:=XW (n:=n) (PD:=enc (eM L L.length)) h hL qW (QL L) (fun i t b hi=>by rw[Lq t b (mem_of_getElem? hi),yU h.kh hi])
 refine⟨p,e,?_⟩
 have h0:=h.nB
 exists Ki,qj,[.val (cP M),.no,.no,.no,.no,.no,.no,.no]
 simp![E5 h,length_map]
 refine lG (σ:=Slot) (fun i s=>[.val (cP M),.own (.aq (enc (eM L i))),.val (.int (QL L i)),s,.no,.no,.no,.no]) .no (by simp[QL,dO,eM,enc]) (fun i x s hx=>(E0 hx).elim fun t z=>z.elim fun b z=>by cases z.2.1;exact⟨_,amN h z.1 z.2.2.1⟩) fun s=> ?_
 simp![length_map,hs,E5 h]
 refine lG (σ:=Slot×Slot) (fun i s=>[.val (cP M),.val (.aq (enc (eM L L.length))),.val (.int (QL L L.length)),s.1,.val (.bytes (iX L.length p e++fH (QL L) L L.length++blob hb L i)),s.2,.no,.no]) (s,.no) (by simp[blob]) (fun i x s hx=>(E0 hx).elim fun t z=>z.elim fun b z=>by
  cases z.2.1
  refine⟨(.val (.str t.s),.val (.bytes b)),?_⟩
  have hi:=le_of_lt z.2.2.2
  rw[Bm z.1,←append_assoc]
  exact amM h z.2.2.1 (fun e=>qW b (e▸z.2.2.1)) (by
   rw[length_append,length_append,oF,qm qU i hi]
   exact le_trans (add_le_add (add_le_add_left (le_trans (wo _ _ _) (mul_le_mul_left 16 h0)) 12) (le_trans (yR h.len i hi) (mul_le_mul_left 100003 (le_trans hi h0)))) (by decide))) fun s=> ?_
 have ho:=yR h.len L.length (le_refl _)
 have jC:(gV L p e).length=12+(fH (QL L) L L.length).length+dO L L.length:=by
  unfold gV;rw[length_append,length_append,oF,qm qU _ (le_refl _)]
 have dE:=wo (QL L) L L.length
 have pe:(fH (QL L) L L.length).length=16*L.length:=sR _ _ _ (le_refl _)
 obtain⟨i,hi⟩:=mem_iff_getElem?.mp hm
 have hp:hY L .head=12+16*(L.length:Int)+(dO L i:Int):=yU h.kh hi
 have nQ:=(List.getElem?_eq_some_iff.mp hi).1
 have nR:dO L i+(FL hd).length≤dO L L.length:=by rw[←rE hi];exact DV _ _ _ nQ
 have j7:=ly hd
 rw[length_map]
 have e1:oW (n+4) 161 none [cP M,.str bq]=some (.val (.bool true),none):=KS (t:=.head) h hm
 have e2:bt (.aq (enc (eM L L.length))) (.str bq)=some (.int (hY L .head)):=Lq .head hd hm
 have e3:iX L.length p e++fH (QL L) L L.length++blob hb L L.length=gV L p e:=rfl
 have e4:hY L .head+8+4=hY L .head+12:=Int.add_assoc ..
 have hD:(gV L p e).length≤1000000:=by rw[jC,pe];exact le_trans (add_le_add (add_le_add_left (mul_le_mul_left 16 h0) 12) (le_trans ho (mul_le_mul_left 100003 h0))) (by decide)
 have hq0:0≤hY L .head:=by rw[hp];exact natCast_nonneg (12+16*L.length+dO L i)
 have eu:hY L .head+12≤(gV L p e).length:=by rw[hp,jC,pe];exact ofNat_le.mpr (le_trans (le_of_eq (add_assoc (12+16*L.length) (dO L i) 12)) (add_le_add_left (le_trans (add_le_add_left (le_trans hh (Nat.le.intro j7.symm)) _) nR) _))
 have s2:min (hY L .head+8).toNat (gV L p e).length+4≤16777216:=le_trans (add_le_add_right (le_trans (min_le_right _ _) hD) 4) (by decide)
 have s1:min (hY L .head+8).toNat (gV L p e).length+4+((gV L p e).length-(hY L .head+12).toNat)≤16777216:=le_trans (add_le_add (add_le_add_right (le_trans (min_le_right _ _) hD) 4) (le_trans (sub_le _ _) hD)) (by decide)
 clear hp jC dE pe ho nR j7 qU
 simp![e1,e2,e3,e4,Bool.not_true,EE,D7,D5,pD]
 rfl
theorem KC(b:List UInt8)(i k):b.getD (i+k) 0=(b.drop i).getD k 0:=by
 rw[getD_eq_getElem?_getD,getD_eq_getElem?_getD,getElem?_drop]
theorem mO(h0:0≤k)(h1:k<256):((UInt8.ofNat k.toNat).toNat:Int)=k:=by
 rw[UInt8.toNat_ofNat_of_lt' (by show k.toNat<256;lia)];lia
theorem lB(h:b.drop i=aB x++r):iA b i=x%65536:=by
 unfold iA
 rw[show b.getD i 0=b.getD (i+0) 0 from rfl,KC,KC,h]
 show((UInt8.ofNat (x/256%256).toNat).toNat:Int)*256+((UInt8.ofNat (x%256).toNat).toNat:Int)=_
 rw[mO (by lia) (by lia),mO (by lia) (by lia)]
 lia
theorem sU(h:b.drop i=dI x++r):m9 b i=x%4294967296:=by
 unfold m9
 rw[lB (x:=x/65536) (r:=aB x++r) (by rw[h,dI,append_assoc]),lB (x:=x) (r:=r) (by rw[←drop_drop,h];rfl)]
 lia
theorem wq(h:b.drop i=aB x++r)(h0: -32768≤x)(h1:x<32768):oJ b i=x:=by
 unfold oJ
 rw[lB h]
 split<;>lia
theorem yB{b:List UInt8}{i:Nat}(h:b.drop i=c++r)(h2:0<c.length):i+c.length≤b.length:=by
 have:=congrArg List.length h
 rw[length_drop,length_append]at this
 exact Nat.add_le_of_le_sub' (le_of_lt (Nat.lt_of_sub_pos (this▸Nat.add_pos_left h2 _))) (this▸le_add_right ..)
theorem ew{b:List UInt8}{i:Nat}(h:b.drop i=c++r):b.drop (i+c.length)=r:=by
 rw[←drop_drop,h,drop_left']
 rfl
theorem AJ{b:List UInt8}{i:Nat}(h:b.drop i=c++r):(b.drop i).take c.length=c:=by
 rw[h,take_left']
 rfl
noncomputable def ha(A:List UInt8)(t:Tag)(b:List UInt8):List UInt8:=if t=.head then b.take 8++A++b.drop 12 else b
theorem xO(hA:A.length=4)(h:t=.head→12≤b.length):(ha A t b).length=b.length:=by
 unfold ha;split
 ·rename_i e
  have:=h e
  simp only[length_append,length_take,length_drop,hA];exact Iw this
 ·rfl
theorem Hh(f:Tag→List UInt8→List UInt8)(h:L[i]? =some (t,b)):blob f L L.length=blob f L i++FL (f t b)++((L.drop (i+1)).map fun p=>FL (f p.1 p.2)).flatten:=by
 rw[←Bm h]
 unfold blob
 rw[take_of_length_le (le_refl _),←flatten_append,←map_append,take_append_drop]
theorem Hi{f g:Tag→List UInt8→List UInt8}{l:TL}(h:∀p∈l,f p.1 p.2=g p.1 p.2):(l.map fun p=>FL (f p.1 p.2))=l.map fun p=>FL (g p.1 p.2):=List.map_congr_left fun p hp=>by rw[h p hp]
theorem Fu(Q)(h:L[i]? =some p):∀k,i+1≤k→∃r,fH Q L k=fH Q L i++md Q i p++r
 |0,hk=>absurd hk (by lia)
 |k+1,hk=>by
  by_cases e:i=k
  ·subst e;exact⟨[],by rw[sQ,h,append_nil]⟩
  ·obtain⟨r,hr⟩:=Fu Q h k (by lia)
   exact⟨r++_,by rw[sQ,hr,append_assoc]⟩
theorem al8{L:TL}{i:Nat}(nd:(L.map (·.1)).Nodup)(h:L[i]? =some (Tag.head,hd)):(∀p∈L.take i,p.1≠.head)∧∀p∈L.drop (i+1),p.1≠.head:=by
 have h2:L=L.take i++(Tag.head,hd)::L.drop (i+1):=by
  obtain⟨h1,h3⟩:=List.getElem?_eq_some_iff.mp h
  rw[←h3,←List.drop_eq_getElem_cons h1,take_append_drop]
 rw[h2,map_append,map_cons,nodup_append]at nd
 obtain⟨n1,n2,n3⟩:=nd
 rw[nodup_cons]at n2
 exact⟨fun p hp e=>n3 p.1 (mem_map_of_mem (f:=Prod.fst) hp) Tag.head (mem_cons_self ..) e,fun p hp e=>n2.1 (mem_map.mpr ⟨p,hp,e⟩)⟩
theorem Q6{M L:TL}(h:TB M L){i:Nat}{hd:List UInt8}(hi:L[i]? =some (Tag.head,hd))(hh:12≤hd.length)(p e):
  ∃A,A.length=4∧WR L p e=iX L.length p e++fH (QL L) L L.length++blob (ha A) L L.length:=by
 refine⟨dI ((2981146554-SM (gV L p e))%4294967296),rfl,?_⟩
 unfold WR
 have KO:=wh ((2981146554-SM (gV L p e))%4294967296)
 generalize dI ((2981146554-SM (gV L p e))%4294967296)=A at KO ⊢
 obtain⟨n1,n2⟩:=al8 h.kh hi
 have i8:∀f:Tag→List UInt8→List UInt8,(∀t b,t≠.head→f t b=b)→blob f L L.length=blob (fun _ b=>b) L i++FL (f .head hd)++((L.drop (i+1)).map fun p=>FL p.2).flatten:=fun f hf=>by
  rw[Hh f hi]
  unfold blob
  rw[Hi (f:=f) (g:=fun _ b=>b) (l:=L.take i) (fun p hp=>hf _ _ (n1 p hp)),Hi (f:=f) (g:=fun _ b=>b) (l:=L.drop (i+1)) (fun p hp=>hf _ _ (n2 p hp))]
 have nQ:=(List.getElem?_eq_some_iff.mp hi).1
 have hx:(iX L.length p e++fH (QL L) L L.length++blob (fun _ b=>b) L i).length=12+16*L.length+dO L i:=by
  rw[length_append,length_append,oF,sR _ _ _ (le_refl _),qm (fun _ _=>rfl) _ (by lia)]
 have uf:gV L p e=iX L.length p e++fH (QL L) L L.length++blob (fun _ b=>b) L i++hd.take 8++(replicate 4 0++(hd.drop 12++replicate ((4-hd.length%4)%4) 0++((L.drop (i+1)).map fun p=>FL p.2).flatten)):=by
  unfold gV
  rw[i8 hb (fun t b ht=>if_neg ht)]
  show _++(_++FL (PH hd)++_)=_
  rw[FL,wj hh,PH]
  simp only[append_assoc]
 have hp:hY L .head=12+16*(L.length:Int)+(dO L i:Int):=yU h.kh hi
 have ht:(hd.take 8).length=8:=by rw[length_take];lia
 rw[hp,uf,take_left' (by rw[length_append,hx,ht];lia),show(12+16*(L.length:Int)+(dO L i:Int)+12).toNat=(12+16*L.length+dO L i+8)+4 by lia,←drop_drop,drop_left' (by rw[length_append,hx,ht]),drop_left' (by rw[length_replicate]),i8 (ha A) (fun t b ht=>if_neg ht)]
 have h1:ha A .head hd=hd.take 8++A++hd.drop 12:=if_pos rfl
 rw[h1,FL,show(hd.take 8++A++hd.drop 12).length=hd.length by rw[←h1];exact xO KO (fun _=>hh)]
 simp only[append_assoc]
theorem Fz{M L:TL}(h:TB M L)(hm:(Tag.head,hd)∈L)(hh:∀b,(Tag.head,b)∈L→12≤b.length)(p e):
  ∃A,A.length=4∧(WR L p e).length=12+16*L.length+dO L L.length∧(∃r,WR L p e=iX L.length p e++r)∧
   (∀i t b,L[i]? =some (t,b)→(∃s r,(WR L p e).drop (12+16*i)=t.b++dI s++dI (QL L i)++dI b.length++r)∧∃r,(WR L p e).drop (QL L i).toNat=ha A t b++r):=by
 obtain⟨i,hi⟩:=mem_iff_getElem?.mp hm
 refine qN (Q6 h hi (hh _ hm) p e) fun A hA hW=> ?_
 have qU:∀p∈L,(ha A p.1 p.2).length=p.2.length:=fun p hp=>xO hA (fun e=>hh p.2 (e▸hp))
 have hr:=sR (QL L) L L.length (le_refl _)
 refine⟨A,hA,?_,⟨_,by rw[hW,append_assoc]⟩,fun i t b hi=>⟨?_,?_⟩⟩
 ·rw[hW,length_append,length_append,oF,hr,qm qU _ (le_refl _)]
 ·have nQ:=(List.getElem?_eq_some_iff.mp hi).1
  obtain⟨r,h2⟩:=Fu (QL L) hi L.length nQ
  refine⟨SM (hb t b),r++blob (ha A) L L.length,?_⟩
  rw[hW,h2,show iX L.length p e++(fH (QL L) L i++md (QL L) i (t,b)++r)++blob (ha A) L L.length=(iX L.length p e++fH (QL L) L i)++(md (QL L) i (t,b)++(r++blob (ha A) L L.length))by simp only[append_assoc]]
  rw[drop_left' (by rw[length_append,oF,sR _ _ _ (by lia)])]
  simp only[md,append_assoc]
 ·have nQ:=(List.getElem?_eq_some_iff.mp hi).1
  rw[hW,Hh (ha A) hi,FL]
  rw[show ∀a b c d e f:List UInt8,a++b++(c++(d++e)++f)=(a++b++c)++(d++(e++f))from fun _ _ _ _ _ _=>by simp only[append_assoc]]
  rw[drop_left' (by rw[length_append,length_append,oF,hr,qm qU _ (by lia),QL];lia)]
  exact⟨_,rfl⟩
def back(A:List UInt8)(L:TL):TL:=L.map fun p=>(p.1,ha A p.1 p.2)
theorem XU:oW (n+2) 192 none [a,b,c,d]=some (.fresh (.inst 192 [(gv,a),(lV,b),(gq,c),(ig,d)]),none):=oR (by kernel_rfl)
theorem EZ:oW (n+2) 171 none [a]=some (.fresh (.inst 171 [(cu,a)]),none):=oR (by kernel_rfl)
def RO(W:List UInt8)(L:TL)(i:Nat)(p:Tag×List UInt8):AV:=.inst 192 [(gv,.str p.1.s),(lV,.int (m9 W (12+16*i+4))),(gq,.int (QL L i)),(ig,.int p.2.length)]
def DL(W:List UInt8)(L:TL)(i:Nat):List AV:=(L.zipIdx.take i).map fun q=>RO W L q.2 q.1
theorem AU{L:TL}{i:Nat}(h:L[i]? =some p):L.zipIdx[i]? =some (p,i):=by rw[List.getElem?_zipIdx,h];simp
theorem vC{k:Nat}{i:Nat}(h:(ij 0 (k:Int) 1)[i]? =some x):x=.int i∧i<k:=by
 obtain⟨rfl,h2⟩:=OJ (by decide) h
 exact⟨by rw[show(0:Int)+1*(i:Int)=i by lia],by lia⟩
theorem mX(k:Nat):(ij 0 (k:Int) 1).length=k:=by rw[Er];simp
theorem ai2{n M L hd}(h:TB M L)(hm:(Tag.head,hd)∈L)(hh:∀b,(Tag.head,b)∈L→12≤b.length)(p e):
  oW (n+3) 203 none [.bytes (WR L p e)]=some (.fresh (.lst (DL (WR L p e) L L.length)),none):=by
 obtain⟨A,hA,hl,⟨r0,h0⟩,hf⟩:=Fz h hm hh p e
 have f1:=h.nB
 have u0:m9 (WR L p e) 0=65536:=by
  rw[sU (x:=65536) (r:=aB L.length++(aB (p*16)++(aB e++(aB ((L.length-p)*16)++r0))))]
  ·rfl
  ·rw[drop_zero,h0,iX];simp only[append_assoc]
 have u4:iA (WR L p e) 4=L.length:=by
  rw[lB (x:=L.length) (r:=aB (p*16)++(aB e++(aB ((L.length-p)*16)++r0)))]
  ·lia
  ·rw[h0,iX];simp only[append_assoc];exact drop_left' rfl
 have c0:bh .kZ (.int 65536) (.tup [.int 65536,.int 1953658213])=some false:=by rfl
 generalize hW:WR L p e=W at*
 exists JU,GK,[.val (.bytes W),.no,.no,.no,.no]
 simp![vW,l7,show(0:Int).toNat=0 from rfl,show(4:Int).toNat=4 from rfl,u0,u4,c0]
 refine lG (σ:=Slot×Slot×Slot) (fun i s=>[.val (.bytes W),.own (.lst (DL W L i)),s.1,s.2.1,s.2.2]) (.no,.no,.no) rfl (fun i x s hx=>by
  obtain⟨rfl,hi⟩:=vC hx
  obtain⟨t,bb,xU⟩:∃t bb,L[i]? =some (t,bb):=⟨L[i].1,L[i].2,getElem?_eq_getElem hi⟩
  obtain⟨⟨sm,r,h1⟩,r2,h2⟩:=hf i _ _ xU
  have hl8:=h.len _ (mem_of_getElem? xU)
  have ho:=yR h.len L.length (le_refl _)
  have nR:dO L i+(FL bb).length≤dO L L.length:=by rw[←rE xU];exact DV _ _ _ hi
  have j7:=ly bb
  have hn:=ew (c:=t.b) (r:=dI sm++(dI (QL L i)++(dI bb.length++r))) (by rw[h1];simp only[append_assoc])
  rw[Tag.wJ]at hn
  have CU:=ew hn
  have Lg:=ew CU
  simp only[wh]at CU Lg
  have ht:=AJ (c:=t.b) (r:=dI sm++(dI (QL L i)++(dI bb.length++r))) (by rw[h1];simp only[append_assoc])
  rw[Tag.wJ]at ht
  have v1:=sU CU
  have v2:=sU Lg
  have hq:QL L i=12+16*(L.length:Int)+(dO L i:Int):=rfl
  rw[emod_eq_of_lt (by lia) (by lia)]at v1 v2
  have t1:=al5 (n:=n) (b:=W) (i:=12+16*(i:Int)) t (by lia) (by lia) (by rw[show(12+16*(i:Int)).toNat=12+16*i by lia];exact ht)
  have e0:(12+16*(i:Int)+4).toNat=12+16*i+4:=by lia
  have e1:(12+16*(i:Int)+8).toNat=12+16*i+4+4:=by lia
  have e2:(12+16*(i:Int)+12).toNat=12+16*i+4+4+4:=by lia
  have xQ:(DL W L i).length≤8:=by unfold DL;rw[length_map,length_take];lia
  refine⟨(.val (.int i),.val (.int (12+16*(i:Int))),.val (RO W L i (t,bb))),?_⟩
  simp![t1,vW,e0,e1,e2,v1,v2,XU,dR]
  unfold DL
  rw[sA (AU xU),map_append]
  rfl) fun s=> ?_
 rw[mX]
 simp![]
theorem Qt(h:(DL W L L.length)[i]? =some x):∃t b,L[i]? =some (t,b)∧x=RO W L i (t,b)∧i<L.length:=by
 unfold DL at h
 rw[take_of_length_le (by simp),getElem?_map,List.getElem?_zipIdx,Option.map_map,map_eq_some_iff]at h
 obtain⟨⟨t,b⟩,h1,rfl⟩:=h
 exact⟨t,b,h1,by simp,(List.getElem?_eq_some_iff.mp h1).1⟩
theorem aja(h:TB M L)(hm:(Tag.head,hd)∈L)(hh:∀b,(Tag.head,b)∈L→12≤b.length)(p e):
  ∃A,A.length=4∧oW (n+4) 210 none [.bytes (WR L p e)]=some (.fresh (.inst 171 [(cu,.aq (enc (bv (back A L))))]),none):=by
 obtain⟨A,hA,hl,-,hf⟩:=Fz h hm hh p e
 refine⟨A,hA,?_⟩
 have f1:=h.nB
 exists J3,GU,[.val (.bytes (WR L p e)),.no,.no]
 simp![ai2 h hm hh]
 generalize hW:WR L p e=W at*
 refine lG (σ:=Slot) (fun i s=>[.val (.bytes W),.own (.aq (enc (bv (back A (L.take i))))),s]) .no rfl (fun i x s hx=>by
  refine Y5 (Qt hx) fun t b h3 C2 hi=> ?_
  subst C2
  obtain⟨-,r,h1⟩:=hf i t b h3
  have h4:=h.len _ (mem_of_getElem? h3)
  dsimp only at h4
  have nR:dO L i+(FL b).length≤dO L L.length:=by rw[←rE h3];exact DV _ _ _ hi
  have j7:=ly b
  have hq:QL L i=12+16*(L.length:Int)+(dO L i:Int):=rfl
  have hlen:=xO (A:=A) (t:=t) (b:=b) hA (fun e=>hh b (e▸mem_of_getElem? h3))
  have ht:=AJ h1
  rw[hlen]at ht
  have hk:((bv (back A (L.take i))).map (·.1))=(L.map (·.1)).take i:=by rw[wX,back,map_map,←List.map_take];rfl
  have dE:(bv (back A (L.take i))).length≤8:=by simp[bv,back];lia
  have Lj:t∉(bv (back A (L.take i))).map (·.1):=by
   rw[hk];exact DQ h.kh (by rw[getElem?_map,h3];rfl)
  have jb:c9 (enc (bv (back A (L.take i)))) (.str t.s)=true:=xh (by rw[hk];exact h.kh.sublist (take_sublist _ _)) (by lia) t
  have c0:bh .fQ (.str t.s) (.aq (enc (bv (back A (L.take i)))))=some false:=by
   show aJ (c9 _ _) (some (cQ _ _).isSome)=_
   rw[jb,IM Lj];rfl
  have pe:(enc (bv (back A (L.take i)))).length<1000000:=by unfold enc;rw[length_map];lia
  refine⟨.val (RO W L i (t,b)),?_⟩
  dsimp only[RO]
  simp![c0,uK,toNat_natCast,ht,pM jb pe,IP _ Lj]
  rw[sA h3]
  simp only[back,bv,map_append]
  rfl) fun s=> ?_
 simp![EZ]
 rw[show(DL W L L.length).length=L.length by unfold DL;simp,take_of_length_le (le_refl _)]
noncomputable def S5:Option (Res×Option AC)→List UInt8
 |some (.val (.bytes b),none)=>b
 |_=>[]
noncomputable def dK:Option (Res×Option AC)→AC
 |some (.fresh c,none)=>c
 |_=>.lst []
noncomputable def uE{α β:Type}(G:α→β)(l:List α):List β:=rec [] (fun a _ ih=>G a::ih) l
theorem all_eq(h:l.map F=uE G l)(ha:a∈l):F a=G a:=by
 refine List.map_inj_left.mp (h.trans ?_) a ha
 clear h ha
 induction l with
 |nil=>rfl
 |cons a l ih=>exact congrArg _ ih
noncomputable def lE(o X:Int):List (AV×AV):=[(.int 32,.int 0),(.int 65,.int 1),(.int 66,.int o),(.int X,.int (o+1))]
noncomputable def Ie(f o X:Int):Nat:=(if f=4 then 0 else 6)+(if o=1 then 0 else 3)+if X=67 then 0 else if X=97 then 1 else 2
noncomputable def Ws:List (List UInt8):=[[0,4,0,46,0,0,0,6,0,4,0,1,0,2,0,32,0,67,255,255,0,0,0,32,0,65,255,255,255,224,0,0,0,1,0,0,0,4,0,0,0,1,0,1,0,2],[0,4,0,52,0,0,0,8,0,8,0,2,0,0,0,32,0,66,0,97,255,255,0,0,0,32,0,65,0,97,255,255,255,224,0,0,255,161,0,1,0,0,0,6,0,0,0,0,0,1,0,1],[0,4,0,52,0,0,0,8,0,8,0,2,0,0,0,32,0,66,156,64,255,255,0,0,0,32,0,65,156,64,255,255,255,224,0,0,99,194,0,1,0,0,0,6,0,0,0,0,0,1,0,1],[0,4,0,40,0,0,0,6,0,4,0,1,0,2,0,32,0,67,255,255,0,0,0,32,0,65,255,255,255,224,255,192,0,1,0,0,0,0,0,0],[0,4,0,48,0,0,0,8,0,8,0,2,0,0,0,32,0,66,0,97,255,255,0,0,0,32,0,65,0,97,255,255,255,224,255,192,255,162,0,1,0,0,0,0,0,0,0,0],[0,4,0,48,0,0,0,8,0,8,0,2,0,0,0,32,0,66,156,64,255,255,0,0,0,32,0,65,156,64,255,255,255,224,255,192,99,195,0,1,0,0,0,0,0,0,0,0],[0,12,0,0,0,0,0,52,0,0,0,0,0,0,0,3,0,0,0,32,0,0,0,32,0,0,0,0,0,0,0,65,0,0,0,65,0,0,0,1,0,0,0,66,0,0,0,67,0,0,0,1],[0,12,0,0,0,0,0,64,0,0,0,0,0,0,0,4,0,0,0,32,0,0,0,32,0,0,0,0,0,0,0,65,0,0,0,65,0,0,0,1,0,0,0,66,0,0,0,66,0,0,0,1,0,0,0,97,0,0,0,97,0,0,0,2],[0,12,0,0,0,0,0,64,0,0,0,0,0,0,0,4,0,0,0,32,0,0,0,32,0,0,0,0,0,0,0,65,0,0,0,65,0,0,0,1,0,0,0,66,0,0,0,66,0,0,0,1,0,0,156,64,0,0,156,64,0,0,0,2],[0,12,0,0,0,0,0,40,0,0,0,0,0,0,0,2,0,0,0,32,0,0,0,32,0,0,0,0,0,0,0,65,0,0,0,67,0,0,0,1],[0,12,0,0,0,0,0,52,0,0,0,0,0,0,0,3,0,0,0,32,0,0,0,32,0,0,0,0,0,0,0,65,0,0,0,66,0,0,0,1,0,0,0,97,0,0,0,97,0,0,0,3],[0,12,0,0,0,0,0,52,0,0,0,0,0,0,0,3,0,0,0,32,0,0,0,32,0,0,0,0,0,0,0,65,0,0,0,66,0,0,0,1,0,0,156,64,0,0,156,64,0,0,0,3]]
noncomputable def Wr:List (List (List Int)):=[[[32,67,65535],[32,65,65535],[65504,0,1],[34],[0,4,0]],[[32,66,97,65535],[32,65,97,65535],[65504,0,65441,1],[40],[0,6,0,0]],[[32,66,40000,65535],[32,65,40000,65535],[65504,0,25538,1],[40],[0,6,0,0]],[[32,67,65535],[32,65,65535],[65504,65472,1],[34],[0,0,0]],[[32,66,97,65535],[32,65,97,65535],[65504,65472,65442,1],[40],[0,0,0,0]],[[32,66,40000,65535],[32,65,40000,65535],[65504,65472,25539,1],[40],[0,0,0,0]],[[32,65,66],[32,65,67],[0,1,1]],[[32,65,66,97],[32,65,66,97],[0,1,1,2]],[[32,65,66,40000],[32,65,66,40000],[0,1,1,2]],[[32,65],[32,67],[0,1]],[[32,65,97],[32,66,97],[0,1,3]],[[32,65,40000],[32,66,40000],[0,1,3]]]
def w2(f o X:Int):List UInt8:=Ws.getD (Ie f o X) []
def kJ(f o X:Int):List UInt8:=0::0::0::1::0::3::0::1::0::0::0::12::w2 f o X
noncomputable def oZ(r:List (List Int))(i:Nat):AV:=.lst ((r.getD i []).map .int)
def jZ(f o X:Int):AC:=(fun r=>if f=4 then .inst 337 [(aH,.bytes (w2 f o X)),(cx,oZ r 0),(d8,oZ r 1),(jg,oZ r 2),(iO,.int ((r.getD 3 []).getD 0 0)),(jh,oZ r 4)]else .inst 363 [(d8,oZ r 0),(cx,oZ r 1),(ck,oZ r 2)]) (Wr.getD (Ie f o X) [])
noncomputable def w6(f:Int):Addr:=if f=4 then 334 else 360
noncomputable def GL(o X c:Int):Int:=if c=32 then 0 else if c=65 then 1 else if c=66 then o else if c=X then o+1 else 0
noncomputable def lu:List Int:=[32,65,66,67,68,97,40000]
noncomputable abbrev uH:List (Int×Int):=[(1,67),(1,97),(1,40000),(2,67),(2,97),(2,40000)]
abbrev Cf:List (Int×Int×Int):=uH.map (fun t=>(4,t))++uH.map fun t=>(12,t)
theorem yP(ho:o=1∨o=2)(hX:X=67∨X=97∨X=40000):(o,X)∈uH:=by
 rcases ho with rfl|rfl<;>rcases hX with rfl|rfl|rfl<;>decide
section
variable {f o X:Int} (hf:f=4∨f=12) (ho:o=1∨o=2) (hX:X=67∨X=97∨X=40000)
include hf ho hX
theorem Kn:(f,o,X)∈Cf:=hf.elim (fun e=>mem_append_left _ (e▸mem_map_of_mem (yP ho hX))) fun e=>mem_append_right _ (e▸mem_map_of_mem (yP ho hX))
theorem W6:oW (n+5) 436 none [.int f,.aq (lE o X)]=some (.val (.bytes (w2 f o X)),none):=by
 refine oR ?_
 rcases hf with rfl|rfl<;>rcases ho with rfl|rfl<;>rcases hX with rfl|rfl|rfl<;>kernel_rfl
theorem W7:oW (n+5) 443 none [.lst [.tup [.int 3,.int 1,.bytes (w2 f o X)]]]=some (.val (.bytes (kJ f o X)),none):=by
 refine oR ?_
 rcases hf with rfl|rfl<;>rcases ho with rfl|rfl<;>rcases hX with rfl|rfl|rfl<;>kernel_rfl
theorem W8:oW (n+6) 386 none [.bytes (kJ f o X)]=some (.fresh (jZ f o X),none):=by
 refine oR ?_
 rcases hf with rfl|rfl<;>rcases ho with rfl|rfl<;>rcases hX with rfl|rfl|rfl<;>kernel_rfl
theorem W9:bw ag.T (jZ f o X).av iQ=some (w6 f):=
 all_eq (l:=Cf) (F:=fun t=>bw ag.T (jZ t.1 t.2.1 t.2.2).av iQ) (G:=fun t=>some (w6 t.1)) (by kernel_rfl) (Kn hf ho hX)
theorem Xa(hc:c∈lu):oW (n+3) (w6 f) none [(jZ f o X).av,.int c]=some (.val (.int (GL o X c)),none):=
 oR (all_eq (all_eq (l:=Cf) (F:=fun t=>lu.map fun c=>dW ag 1000 (n+3) (w6 t.1) none [(jZ t.1 t.2.1 t.2.2).av,.int c]) (G:=fun t=>uE (fun c=>some (.val (.int (GL t.2.1 t.2.2 c)),none)) lu) (by kernel_rfl) (Kn hf ho hX)) hc)
theorem Xb:(kJ f o X).length≤1000:=by
 rcases hf with rfl|rfl<;>rcases ho with rfl|rfl<;>rcases hX with rfl|rfl|rfl<;>decide+kernel
omit hf in
theorem Iu(hc:c∈lu):aW .get [.aq (lE o X),.int c,.int 0]=some (.int (GL o X c))∧0≤GL o X c∧GL o X c<o+2:=
 ⟨all_eq (all_eq (l:=uH) (F:=fun t=>lu.map fun c=>aW .get [.aq (lE t.1 t.2),.int c,.int 0]) (G:=fun t=>uE (fun c=>some (.int (GL t.1 t.2 c))) lu) (by kernel_rfl) (yP ho hX)) hc,
  of_decide_eq_true (all_eq_true.mp (all_eq_true.mp (show(uH.all fun t=>lu.all fun c=>decide (0≤GL t.1 t.2 c∧GL t.1 t.2 c<t.1+2))=true by kernel_rfl) _ (yP ho hX)) _ hc)⟩
end
noncomputable def fJ(as:List Int):List (Int×Int):=(500,0)::as.map (fun a=>(a,-3))++[(500,9)]
def yJ(as:List Int):AV:=.lst ((fJ as).map fun p=>.tup [.int p.1,.int p.2])
def Nh(as:List Int):List AV:=match dW ag 1000 12 965 none [yJ as]with
 |some (.val (.tup l),none)=>l
 |_=>[]
def iM(as:List Int):List UInt8:=match Nh as with
 |[.bytes b,_]=>b
 |_=>[]
def e9(as:List Int):Int:=match Nh as with
 |[_,.int m]=>m
 |_=>0
def gN(as:List Int):AC:=dK (dW ag 1000 12 953 none [.bytes (iM as),.int (e9 as),.int (fJ as).length])
noncomputable abbrev A8:List Int:=[500,0,65535]
abbrev nc:List (List Int):=A8.map (fun a=>[a])++A8.flatMap fun a=>A8.map fun b=>[a,b]
theorem Sj(h:as.length=1∨as.length=2)(h2:∀a∈as,a∈[500,0,65535]):as∈nc:=by
 cases as with
 |nil=>exact absurd h (by decide)
 |cons a as=>
 cases as with
 |nil=>exact mem_append_left _ (mem_map_of_mem (f:=fun a=>[a]) (h2 a (.head _)))
 |cons b as=>
 cases as with
 |nil=>exact mem_append_right _ (List.mem_flatMap.mpr ⟨a,h2 a (.head _),mem_map_of_mem (f:=fun b=>[a,b]) (h2 b (.tail _ (.head _)))⟩)
 |cons c as=>exact h.elim (fun h=>nomatch h) fun h=>nomatch h
section
variable (h:as∈nc)
include h
theorem mt1:oW (n+3) 965 none [yJ as]=some (.val (.tup [.bytes (iM as),.int (e9 as)]),none):=
 oR (all_eq (F:=fun as=>dW ag 1000 (n+3) 965 none [yJ as]) (G:=fun as=>some (.val (.tup [.bytes (iM as),.int (e9 as)]),none)) (by kernel_rfl) h)
theorem mt2:oW (n+4) 953 none [.bytes (iM as),.int (e9 as),.int (fJ as).length]=some (.fresh (gN as),none):=
 oR (all_eq (F:=fun as=>dW ag 1000 (n+4) 953 none [.bytes (iM as),.int (e9 as),.int (fJ as).length]) (G:=fun as=>some (.fresh (gN as),none)) (by kernel_rfl) h)
theorem mt3(e:(fJ as)[i]? =some (a,b)):oW (n+1) 934 none [(gN as).av,.int (i:Nat)]=some (.val (.int a),none)∧oW (n+1) 941 none [(gN as).av,.int (i:Nat)]=some (.val (.int b),none):=by
 have hi:=List.mem_range.mpr (List.getElem?_eq_some_iff.mp e).1
 have k1:=all_eq (all_eq (F:=fun as=>(List.range (fJ as).length).map fun i=>dW ag 1000 (n+1) 934 none [(gN as).av,.int (i:Nat)]) (G:=fun as=>uE (fun i=>(fJ as)[i]?.map fun p=>(.val (.int p.1),none)) (List.range (fJ as).length)) (by kernel_rfl) h) hi
 have k2:=all_eq (all_eq (F:=fun as=>(List.range (fJ as).length).map fun i=>dW ag 1000 (n+1) 941 none [(gN as).av,.int (i:Nat)]) (G:=fun as=>uE (fun i=>(fJ as)[i]?.map fun p=>(.val (.int p.2),none)) (List.range (fJ as).length)) (by kernel_rfl) h) hi
 rw[e]at k1 k2
 exact⟨oR k1,oR k2⟩
theorem Ng:(iM as).length≤1000∧1≤e9 as∧e9 as≤4:=of_decide_eq_true (all_eq_true.mp (show(nc.all fun as=>decide ((iM as).length≤1000∧1≤e9 as∧e9 as≤4))=true by kernel_rfl) _ h)
theorem mt5:bw ag.T (gN as).av cN=some 934∧bw ag.T (gN as).av cT=some 941:=
 ⟨all_eq (F:=fun as=>bw ag.T (gN as).av cN) (G:=fun _=>some 934) (by kernel_rfl) h,all_eq (F:=fun as=>bw ag.T (gN as).av cT) (G:=fun _=>some 941) (by kernel_rfl) h⟩
end
noncomputable def lO:Nat→List (Int×Int×Int)
 |0=>[]
 |1=>[(1,2,-40)]
 |_=>[(1,2,-40),(0,1,7)]
def gk(k:Nat):AV:=.lst ((lO k).map fun p=>.tup [.int p.1,.int p.2.1,.int p.2.2])
def n5(k:Nat):List UInt8:=S5 (dW ag 1000 12 1012 none [gk k])
def ke(k:Nat):AC:=.inst 989 [(cu,match k with
 |0=>.lst []
 |1=>.lst [.tup [.int 1,.int 2,.int (-40)]]
 |_=>.lst [.tup [.int 0,.int 1,.int 7],.tup [.int 1,.int 2,.int (-40)]])]
def oV(k:Nat):List (AV×AV):=(lO k).map fun p=>(.tup [.int p.1,.int p.2.1],.int p.2.2)
theorem k_mem(h:k=1∨k=2):k∈[1,2]:=h.elim (fun e=>e▸.head _) fun e=>e▸.tail _ (.head _)
theorem adT(h:k=0∨k=1∨k=2):k∈[0,1,2]:=h.elim (fun e=>e▸.head _) fun h=>.tail _ (k_mem h)
theorem kn1(h:k=1∨k=2):oW (n+5) 1012 none [gk k]=some (.val (.bytes (n5 k)),none):=
 oR (all_eq (F:=fun k=>dW ag 1000 (n+5) 1012 none [gk k]) (G:=fun k=>some (.val (.bytes (n5 k)),none)) (by kernel_rfl) (k_mem h))
theorem kn2(h:k=1∨k=2):oW (n+6) 1005 none [.bytes (n5 k)]=some (.fresh (ke k),none):=
 oR (all_eq (F:=fun k=>dW ag 1000 (n+6) 1005 none [.bytes (n5 k)]) (G:=fun k=>some (.fresh (ke k),none)) (by kernel_rfl) (k_mem h))
theorem kn0:oW (n+2) 989 none [.lst []]=some (.fresh (ke 0),none):=oR (by kernel_rfl)
noncomputable def q9(k:Nat)(l:Int):Int:=if l=1∧1≤k then -40 else if l=0∧2≤k then 7 else 0
theorem Mn(hk:k=0∨k=1∨k=2)(h:c∈[(0,1),(1,2),(2,1)]):oW (n+1) 986 none [(ke k).av,.int c.1,.int c.2]=some (.val (.int (q9 k c.1)),none)∧aW .get [.aq (oV k),.tup [.int c.1,.int c.2],.int 0]=some (.int (q9 k c.1)):=by
 simp only[mem_cons,List.not_mem_nil,or_false]at h
 rcases hk with rfl|rfl|rfl<;>rcases h with rfl|rfl|rfl<;>exact⟨oR (by kernel_rfl),by kernel_rfl⟩
theorem kn4(h:k=0∨k=1∨k=2):(n5 k).length≤1000:=of_decide_eq_true (all_eq_true.mp (show([0,1,2].all fun k=>decide ((n5 k).length≤1000))=true by kernel_rfl) _ (adT h))
theorem abr:oW (n+2) 468 none [a,b,c,d,e]=some (.fresh (.inst 468 [(bA,a),(cw,b),(bL,c),(eX,d),(jj,e)]),none):=oR (by kernel_rfl)
theorem abt:oW (n+2) 468 none [a,b,c]=some (.fresh (.inst 468 [(bA,a),(cw,b),(bL,c),(eX,.int 0),(jj,.int 0)]),none):=oR (by kernel_rfl)
theorem Mq:oW (n+2) 524 none [a,b,c,d]=some (.fresh (.inst 524 [(iN,a),(iP,b),(iR,c),(cJ,d)]),none):=oR (by kernel_rfl)
abbrev d9(u:Int)(box:AV)(lg:Bool)(fl st:Int):AC:=.inst 468 [(bA,.int u),(cw,box),(bL,.bool lg),(eX,.int fl),(jj,.int st)]
theorem ai5(hl:b.length=54)(h1:m9 b 12=1594834165)(h2:iA b 18=u)(hu:16≤u∧u≤16384)(h3:iA b 50=if lg then 1 else 0):
  ∃box fl st,oW (n+3) 479 none [.bytes b]=some (.fresh (d9 u box lg fl st),none):=by
 rw[fM (d:=B0) (st:=[.val (.bytes b),.no,.no,.no]) rfl rfl rfl]
 dsimp only[B0,GN]
 have e:∀i:Nat,((i:Int)).toNat=i:=toNat_natCast
 have xg:=e 12;have IH:=e 18;have IJ:=e 50
 simp only[Int.cast_ofNat_Int]at xg IH IJ
 obtain⟨hu0,hu1⟩:=hu
 cases lg<;>simp only[false_eq_true,if_false,if_true]at h3<;>simp![vW,xg,h1,l7,IH,h2,Es,IJ,h3,abr]<;>exact⟨_,_,_,rfl⟩
noncomputable def nh(lg:Bool):Int:=if lg then 1 else 0
def BH(u:Int)(a b c d:Int)(lg:Bool):List UInt8:=dI 65536++dI 65536++dI 0++dI 1594834165++aB 0++aB u++replicate 16 0++aB a++aB b++aB c++aB d++aB 0++aB 8++aB 2++aB (nh lg)++aB 0
theorem amI:oW (n+3) 486 none [(d9 u (.tup [.int a,.int b,.int c,.int d]) lg 0 0).av]=some (.val (.bytes (BH u a b c d lg)),none):=by
 exists Kf,G6,[.val (d9 u (.tup [.int a,.int b,.int c,.int d]) lg 0 0).av,.no,.no]
 have X0:((16:Int)).toNat=16:=rfl
 cases lg<;>simp![pD,gO,X0,xx,xy,nZ]<;>kernel_rfl
theorem aeA(h:A.length=4):∃a b c d,A=[a,b,c,d]:=by
 obtain⟨a,A,rfl⟩:=List.exists_cons_of_length_eq_add_one h
 obtain⟨b,A,rfl⟩:=List.exists_cons_of_length_eq_add_one (Nat.succ.inj h)
 obtain⟨c,A,rfl⟩:=List.exists_cons_of_length_eq_add_one (Nat.succ.inj (Nat.succ.inj h))
 obtain⟨d,A,rfl⟩:=List.exists_cons_of_length_eq_add_one (Nat.succ.inj (Nat.succ.inj (Nat.succ.inj h)))
 exact⟨a,b,c,d,congrArg (fun z=>a::b::c::d::z) (List.eq_nil_of_length_eq_zero (Nat.succ.inj (Nat.succ.inj (Nat.succ.inj (Nat.succ.inj h)))))⟩
theorem Qo(hA:A.length=4)(hu:16≤u∧u≤16384):∃box fl st,oW (n+3) 479 none [.bytes (ha A .head (BH u a b c d lg))]=some (.fresh (d9 u box lg fl st),none):=by
 obtain⟨a1,a2,a3,a4,rfl⟩:=aeA hA
 refine ai5 (by kernel_rfl) ?_ ?_ hu ?_
 ·rw[sU (x:=1594834165) (r:=(ha [a1,a2,a3,a4] .head (BH u a b c d lg)).drop 16) (by kernel_rfl)];rfl
 ·rw[lB (x:=u) (r:=(ha [a1,a2,a3,a4] .head (BH u a b c d lg)).drop 20) (by kernel_rfl)];lia
 ·rw[lB (x:=nh lg) (r:=(ha [a1,a2,a3,a4] .head (BH u a b c d lg)).drop 52) (by kernel_rfl)];cases lg<;>rfl
theorem ai1(hl:6≤b.length):oW (n+2) 493 none [.bytes b]=some (.val (.int (iA b 4)),none):=by
 exists JS,GJ,[.val (.bytes b)]
 simp![l7]
 rfl
def BX(c p q d:Int):List UInt8:=dI 65536++(aB c++([p,q,p,q,2,16,64,64,0,256,0,16,d].map aB).flatten)
theorem amK:oW (n+3) 500 none [.int c,.int p,.int q,.int d]=some (.val (.bytes (BX c p q d)),none):=by
 exists Kh,G8,[.val (.int c),.val (.int p),.val (.int q),.val (.int d),.no,.no,.no]
 simp![pD,gO,xx,xy,nZ]
 kernel_rfl
theorem Qq(h:0≤c∧c<65536):oW (n+2) 493 none [.bytes (BX c p q d)]=some (.val (.int c),none):=by
 rw[ai1 (by show 6≤32;lia),lB (x:=c) (r:=([p,q,p,q,2,16,64,64,0,256,0,16,d].map aB).flatten) rfl]
 rw[emod_eq_of_lt h.1 h.2]
def BL(w c:Int):List UInt8:=dI 65536++aB 8++aB (-2)++aB 1++aB w++replicate 6 0++aB 1++aB 0++replicate 12 0++aB c
abbrev p8(c:Int):AC:=.inst 524 [(iN,.int 8),(iP,.int (-2)),(iR,.int 1),(cJ,.int c)]
theorem amJ{w c}:oW (n+3) 542 none [(p8 c).av,.int w]=some (.val (.bytes (BL w c)),none):=by
 exists Kg,G7,[.val (p8 c).av,.val (.int w),.no]
 have e6:((6:Int)).toNat=6:=rfl
 have xg:((12:Int)).toNat=12:=rfl
 simp![pD,gO,e6,xg]
 rfl
theorem ai6{w c}(h:0≤c∧c<65536):oW (n+3) 535 none [.bytes (BL w c)]=some (.fresh (p8 c),none):=by
 have hl:(BL w c).length=36:=rfl
 have h4:oJ (BL w c) 4=8:=wq (r:=aB (-2)++(aB 1++(aB w++(replicate 6 0++(aB 1++(aB 0++(replicate 12 0++aB c))))))) (by kernel_rfl) (by decide) (by decide)
 have h6:oJ (BL w c) 6= -2:=wq (r:=aB 1++(aB w++(replicate 6 0++(aB 1++(aB 0++(replicate 12 0++aB c)))))) (by kernel_rfl) (by decide) (by decide)
 have h8:oJ (BL w c) 8=1:=wq (r:=aB w++(replicate 6 0++(aB 1++(aB 0++(replicate 12 0++aB c))))) (by kernel_rfl) (by decide) (by decide)
 have h34:iA (BL w c) 34=c:=by rw[lB (x:=c) (r:=[]) (by kernel_rfl),emod_eq_of_lt h.1 h.2]
 generalize BL w c=b at*
 have e:∀i:Nat,((i:Int)).toNat=i:=toNat_natCast
 have e4:=e 4;have e6:=e 6;have e8:=e 8;have II:=e 34
 simp only[Int.cast_ofNat_Int]at e4 e6 e8 II
 exists JX,GO,[.val (.bytes b)]
 simp![l7,Es,e4,e6,e8,II,h4,h6,h8,h34,Mq]
def go(gs:List (List UInt8))(i:Nat):List UInt8:=((gs.take i).map FL).flatten
theorem ua(h:gs[i]? =some g):go gs (i+1)=go gs i++FL g:=by
 unfold go;rw[sA h];simp
theorem qR(h:∀g∈gs,g.length≤1000):∀i,i≤gs.length→(go gs i).length≤1003*i
 |0,_=>le_refl _
 |i+1,hi=>by
  have h1:=qR h i (le_of_lt hi)
  have h2:=h gs[i] (getElem_mem hi)
  rw[ua (getElem?_eq_getElem hi),length_append];exact DH h1 (sJ h2)
theorem Qu:(FL b).length%4=0:=by
 rw[ly,←Nat.mod_add_mod]
 exact(by decide:∀m<4,(m+(4-m)%4)%4=0) _ (mod_lt _ (by decide))
theorem KJ(gs:List (List UInt8)):∀i,i≤gs.length→(go gs i).length%4=0
 |0,_=>rfl
 |i+1,hi=>by
  have h1:=KJ gs i (by lia)
  rw[ua (getElem?_eq_getElem hi),length_append,Nat.add_mod,h1,Qu]
theorem xK(gs:List (List UInt8))(i j:Nat)(h:i≤j):(go gs i).length≤(go gs j).length:=by
 unfold go
 rw[show j=i+(j-i)by lia,List.take_add,map_append,flatten_append,length_append]
 lia
def eW(gs:List (List UInt8))(k:Nat):List AV:=(List.range k).map fun i=>.int (go gs i).length
theorem pB(gs k):eW gs (k+1)=eW gs k++[.int (go gs k).length]:=by unfold eW;rw[List.range_succ];simp
theorem rI(gs k):(eW gs k).length=k:=by simp[eW]
theorem NK(h:(eW gs k)[i]? =some x):x=.int (go gs i).length∧i<k:=by
 unfold eW at h
 rw[getElem?_map,map_eq_some_iff]at h
 obtain⟨j,h1,rfl⟩:=h
 rw[List.getElem?_eq_some_iff]at h1
 obtain⟨h2,h1⟩:=h1
 rw[getElem_range]at h1
 rw[length_range]at h2
 subst h1
 exact⟨rfl,h2⟩
def PL(lg:Bool)(v:Int):List UInt8:=if lg then dI v else aB (v/2)
noncomputable def told(lg:Bool)(gs:List (List UInt8)):Nat→List UInt8
 |0=>[]
 |i+1=>told lg gs i++PL lg (go gs i).length
theorem E9(lg)(gs)(i):told lg gs (i+1)=told lg gs i++PL lg (go gs i).length:=rfl
noncomputable def pR(lg:Bool):Nat:=if lg then 4 else 2
theorem pU(lg gs):∀i,(told lg gs i).length=pR lg*i
 |0=>rfl
 |i+1=>by
  rw[E9,length_append,pU lg gs i]
  cases lg<;>rfl
theorem Fb(lg gs)(i):∀k,i+1≤k→∃r,told lg gs k=told lg gs i++(PL lg (go gs i).length++r)
 |0,hk=>absurd hk (by lia)
 |k+1,hk=>by
  by_cases e:i=k
  ·subst e;exact⟨[],by rw[E9,append_nil]⟩
  ·obtain⟨r,hr⟩:=Fb lg gs i k (by lia)
   exact⟨r++PL lg (go gs k).length,by rw[E9,hr];simp only[append_assoc]⟩
theorem UP{gs:List (List UInt8)}{i:Nat}(h:(gs.map AV.bytes)[i]? =some x):∃g,gs[i]? =some g∧x=.bytes g∧i<gs.length:=by
 rw[getElem?_map,map_eq_some_iff]at h
 obtain⟨g,h1,rfl⟩:=h
 exact⟨g,h1,rfl,(List.getElem?_eq_some_iff.mp h1).1⟩
theorem amH{n}{gs:List (List UInt8)}(hg:∀g∈gs,g.length≤1000)(hn:gs.length≤8):
  oW (n+3) 913 none [.lst (gs.map .bytes),.bool lg]=some (.val (.tup [.bytes (go gs gs.length),.bytes (told lg gs (gs.length+1))]),none):=by
 exists Ke,G5,[.val (.lst (gs.map .bytes)),.val (.bool lg),.no,.no,.no,.no,.no]
 simp![]
 refine lG (σ:=Slot) (fun i s=>[.val (.lst (gs.map .bytes)),.val (.bool lg),.val (.bytes (go gs i)),.own (.lst (eW gs (i+1))),s,.no,.no]) .no rfl (fun i x s hx=>by
  refine i3 (UP hx) fun g h1 eu hi=> ?_
  subst eu
  have h2:=hg g (mem_of_getElem? h1)
  have h3:=qR hg i (by lia)
  have h4:=rI gs (i+1)
  have h5:=ua h1
  refine⟨.val (.bytes g),?_⟩
  simp![tR,dR]
  rw[pB gs (i+1),h5]) fun s=> ?_
 have h3:=qR hg gs.length (by lia)
 rw[length_map]
 have h6:bt (.lst (eW gs (gs.length+1))) (.int (-1))=some (.int (go gs gs.length).length):=by rw[pB];exact sq
 have h7:pR lg≤4:=by cases lg<;>decide
 cases lg
 ·simp![h6,Bool.not_false]
  refine lG (σ:=Slot) (fun i s2=>[.val (.lst (gs.map .bytes)),.val (.bool false),.val (.bytes (go gs gs.length)),.val (.lst (eW gs (gs.length+1))),s,.val (.bytes (told false gs i)),s2]) .no rfl (fun i x s hx=>by
   obtain⟨rfl,hi⟩:=NK hx
   have h9:=pU false gs i
   have qT:(PL false (go gs i).length).length=2:=rfl
   rw[show pR false=2 from rfl]at h9
   refine⟨.val (.int (go gs i).length),?_⟩
   simp![gO]
   rfl) fun s=> ?_
  rw[rI]
  simp![]
 ·simp![h6,Bool.not_true]
  refine lG (σ:=Slot) (fun i s2=>[.val (.lst (gs.map .bytes)),.val (.bool true),.val (.bytes (go gs gs.length)),.val (.lst (eW gs (gs.length+1))),s,.val (.bytes (told true gs i)),s2]) .no rfl (fun i x s hx=>by
   obtain⟨rfl,hi⟩:=NK hx
   have h9:=pU true gs i
   rw[show pR true=4 from rfl]at h9
   refine⟨.val (.int (go gs i).length),?_⟩
   simp![pD]
   rfl) fun s=> ?_
  rw[rI]
  simp![]
theorem ai7(hg:∀g∈gs,g.length≤1000)(hn:gs.length≤8):
  oW (n+3) 669 none [.bytes (told lg gs (gs.length+1)),.bool lg,.int gs.length]=some (.fresh (.lst (eW gs (gs.length+1))),none):=by
 exists JY,GP,[.val (.bytes (told lg gs (gs.length+1))),.val (.bool lg),.val (.int gs.length),.no,.no,.no,.no]
 have hl:=pU lg gs (gs.length+1)
 have hc:(gs.length:Int)+1=((gs.length+1:Nat):Int):=by lia
 have hm:∀i,bt (.lst (eW gs (i+1))) (.int (-1))=some (.int (go gs i).length):=fun i=>by rw[pB];exact sq
 have h0:eW gs 0=[]:=rfl
 have c0:decide (([]:List AV)≠[])=false:=rfl
 cases lg
 ·have h2:∀i,i≤gs.length→iA (told false gs (gs.length+1)) (2*i)*2=(go gs i).length:=fun i hi=>by
   obtain⟨r,hr⟩:=Fb false gs i (gs.length+1) (by lia)
   have h3:=KJ gs i hi
   have h4:=qR hg i hi
   rw[lB (x:=(go gs i).length/2) (r:=r) (by rw[hr,drop_left' (by rw[pU];rfl)];rfl)]
   lia
  rw[show pR false=2 from rfl]at hl
  generalize told false gs (gs.length+1)=T at*
  simp![]
  rw[hc]
  refine lG (σ:=Slot×Slot) (fun i s=>[.val (.bytes T),.val (.bool false),.val (.int gs.length),.val (.int 2),.own (.lst (eW gs i)),s.1,s.2]) (.no,.no) rfl (fun i x s hx=>by
   obtain⟨rfl,hi⟩:=vC hx
   have h3:=h2 i (by lia)
   have h4:=rI gs i
   have e:(2*(i:Int)).toNat=2*i:=by lia
   refine⟨(.val (.int i),.val (.int (go gs i).length)),?_⟩
   rw[mul_comm]at h3
   cases i with
   |zero=>
    simp![l7,e,h3,h0,c0,dR]
    rw[pB gs 0,h0,nil_append]
   |succ i=>
    have h5:eW gs (i+1)≠[]:=fun e=>by rw[e]at h4;simp at h4
    have h6:=xK gs i (i+1) (by lia)
    simp![l7,e,h3,hm,h5,dR,ne_eq,not_false_eq_true]
    rw[pB gs (i+1)]) fun s=> ?_
  rw[mX]
  simp![]
 ·have h2:∀i,i≤gs.length→m9 (told true gs (gs.length+1)) (4*i)=(go gs i).length:=fun i hi=>by
   obtain⟨r,hr⟩:=Fb true gs i (gs.length+1) (by lia)
   have h4:=qR hg i hi
   rw[sU (x:=(go gs i).length) (r:=r) (by rw[hr,drop_left' (by rw[pU];rfl)];rfl)]
   lia
  rw[show pR true=4 from rfl]at hl
  generalize told true gs (gs.length+1)=T at*
  simp![]
  rw[hc]
  refine lG (σ:=Slot×Slot) (fun i s=>[.val (.bytes T),.val (.bool true),.val (.int gs.length),.val (.int 4),.own (.lst (eW gs i)),s.1,s.2]) (.no,.no) rfl (fun i x s hx=>by
   obtain⟨rfl,hi⟩:=vC hx
   have h3:=h2 i (by lia)
   have h4:=rI gs i
   have e:(4*(i:Int)).toNat=4*i:=by lia
   refine⟨(.val (.int i),.val (.int (go gs i).length)),?_⟩
   cases i with
   |zero=>
    simp![vW,e,h3,h0,c0,dR]
    rw[pB gs 0,h0,nil_append]
   |succ i=>
    have h5:eW gs (i+1)≠[]:=fun e=>by rw[e]at h4;simp at h4
    have h6:=xK gs i (i+1) (by lia)
    simp![vW,e,h3,hm,h5,dR,ne_eq,not_false_eq_true]
    rw[pB gs (i+1)]) fun s=> ?_
  rw[mX]
  simp![]
noncomputable abbrev Pt:=Int×Int×Bool
noncomputable def bo(p:Pt):AV:=.tup [.int p.1,.int p.2.1,.bool p.2.2]
def aY(c:List Pt):AV:=.lst (c.map bo)
def bl(cs:List (List Pt)):AV:=.lst (cs.map aY)
abbrev eg(cs:List (List Pt))(b:List UInt8):AC:=.inst 599 [(cD,bl cs),(dz,.bytes b)]
theorem DW:oW (n+2) 599 none [a,b]=some (.fresh (.inst 599 [(cD,a),(dz,b)]),none):=oR (by kernel_rfl)
theorem NB:oW (n+2) 599 none [a]=some (.fresh (.inst 599 [(cD,a),(dz,.bytes [])]),none):=oR (by kernel_rfl)
theorem kX{α:Type}{f:α→AV}{l:List α}(h:(l.map f)[i]? =some x):∃a,l[i]? =some a∧x=f a∧i<l.length:=by
 rw[getElem?_map,map_eq_some_iff]at h
 obtain⟨g,h1,rfl⟩:=h
 exact⟨g,h1,rfl,(List.getElem?_eq_some_iff.mp h1).1⟩
def eF(s:Int):List UInt8:=if s=0 then []else if 0<s∧s<256 then [UInt8.ofNat s.toNat]else if -256<s∧s<0 then [UInt8.ofNat (-s).toNat]else aB s
noncomputable def eR(sh sm s:Int):Int:=if s=0 then sm else if 0<s∧s<256 then Builtin.bitOr sh sm else if -256<s∧s<0 then sh else 0
theorem F2{s sh sm:Int}(h0: -32768≤s)(h1:s≤32767):oW (n+2) 867 none [.int s,.int sh,.int sm]=some (.val (.tup [.int (eR sh sm s),.bytes (eF s)]),none):=by
 exists Jw,Gs,[.val (.int s),.val (.int sh),.val (.int sm)]
 unfold eR eF
 by_cases e0:s=0
 ·simp![if_pos e0]
 rw[if_neg e0,if_neg e0]
 by_cases e1:0<s∧s<256
 ·rw[if_pos e1,if_pos e1]
  obtain⟨h2,h3⟩:=e1
  simp![]
 rw[if_neg e1,if_neg e1]
 by_cases e2: -256<s∧s<0
 ·rw[if_pos e2,if_pos e2]
  obtain⟨h2,h3⟩:=e2
  simp![Int.zero_sub]
 ·rw[if_neg e2,if_neg e2]
  by_cases e3:0<s
  ·simp![gO]
  ·simp![gO]
def lF(dx dy:Int)(on:Bool):Int:=Builtin.bitOr (Builtin.bitOr (eR 2 16 dx) (eR 4 32 dy)) (nh on)
def m7(short same f s:Int):Prop:=(s=0∧Builtin.bitAnd f short=0∧Builtin.bitAnd f same≠0)∨(0<s∧s<256∧Builtin.bitAnd f short≠0∧Builtin.bitAnd f same≠0)∨
 (-256<s∧s<0∧Builtin.bitAnd f short≠0∧Builtin.bitAnd f same=0)∨(s≠0∧¬(0<s∧s<256)∧¬(-256<s∧s<0)∧Builtin.bitAnd f short=0∧Builtin.bitAnd f same=0)
theorem FX(sh sm s):(s=0∧eR sh sm s=sm)∨(0<s∧s<256∧eR sh sm s=Builtin.bitOr sh sm)∨(-256<s∧s<0∧eR sh sm s=sh)∨(s≠0∧¬(0<s∧s<256)∧¬(-256<s∧s<0)∧eR sh sm s=0):=by
 unfold eR
 by_cases e0:s=0
 ·exact .inl ⟨e0,if_pos e0⟩
 rw[if_neg e0]
 by_cases e1:0<s∧s<256
 ·exact .inr (.inl ⟨e1.1,e1.2,if_pos e1⟩)
 rw[if_neg e1]
 by_cases e2: -256<s∧s<0
 ·exact .inr (.inr (.inl ⟨e2.1,e2.2,if_pos e2⟩))
 ·exact .inr (.inr (.inr ⟨e0,e1,e2,if_neg e2⟩))
def AW(sh sm:Int):Prop:=(Builtin.bitAnd sm sh=0∧Builtin.bitAnd sm sm≠0)∧(Builtin.bitAnd (Builtin.bitOr sh sm) sh≠0∧Builtin.bitAnd (Builtin.bitOr sh sm) sm≠0)∧(Builtin.bitAnd sh sh≠0∧Builtin.bitAnd sh sm=0)∧Builtin.bitAnd 0 sh=0∧Builtin.bitAnd 0 sm=0
theorem F1{sh sm f s:Int}(k:AW sh sm)(h1:Builtin.bitAnd f sh=Builtin.bitAnd (eR sh sm s) sh)(h2:Builtin.bitAnd f sm=Builtin.bitAnd (eR sh sm s) sm):m7 sh sm f s:=by
 unfold m7
 rw[h1,h2]
 refine(FX sh sm s).elim (fun h=>.inl ⟨h.1,?_⟩) fun h=>.inr (h.elim (fun h=>.inl ⟨h.1,h.2.1,?_⟩) fun h=>.inr (h.elim (fun h=>.inl ⟨h.1,h.2.1,?_⟩) fun h=>.inr ⟨h.1,h.2.1,h.2.2.1,?_⟩))
 ·rw[h.2];exact k.1
 ·rw[h.2.2];exact k.2.1
 ·rw[h.2.2];exact k.2.2.1
 ·rw[h.2.2.2];exact k.2.2.2
theorem FY(sh sm s):eR sh sm s∈[sm,Builtin.bitOr sh sm,sh,0]:=by
 refine(FX sh sm s).elim (fun h=> ?_) fun h=>h.elim (fun h=> ?_) fun h=>h.elim (fun h=> ?_) fun h=> ?_
 ·rw[h.2];exact .head _
 ·rw[h.2.2];exact .tail _ (.head _)
 ·rw[h.2.2];exact .tail _ (.tail _ (.head _))
 ·rw[h.2.2.2];exact .tail _ (.tail _ (.tail _ (.head _)))
def p7(a b c f:Int):Prop:=((Builtin.bitAnd f 2=Builtin.bitAnd a 2∧Builtin.bitAnd f 16=Builtin.bitAnd a 16)∧Builtin.bitAnd f 4=Builtin.bitAnd b 4∧Builtin.bitAnd f 32=Builtin.bitAnd b 32)∧Builtin.bitAnd f 1=c
def wc(f:Int):Prop:=Builtin.bitAnd f 8=0∧0≤f∧f<256
noncomputable instance {a b c f}:Decidable (p7 a b c f):=inferInstanceAs (Decidable (_∧_))
noncomputable instance {f}:Decidable (wc f):=inferInstanceAs (Decidable (_∧_))
theorem Z2:∀a∈[(16:Int),18,2,0],∀b∈[(32:Int),36,4,0],∀c∈[(0:Int),1],p7 a b c (Builtin.bitOr (Builtin.bitOr a b) c)∧wc (Builtin.bitOr (Builtin.bitOr a b) c)∧p7 a b c (Builtin.bitOr (Builtin.bitOr (Builtin.bitOr a b) c) 8):=by decide+kernel
theorem S1(on):nh on∈[(0:Int),1]:=by
 cases on with
 |false=>exact .head _
 |true=>exact .tail _ (.head _)
theorem S2(on):decide (nh on≠0)=on:=by
 cases on<;>rfl
structure A0 (f dx dy:Int) (on:Bool):Prop where
 x:m7 2 16 f dx
 y:m7 4 32 f dy
 on:decide (Builtin.bitAnd f 1≠0)=on
theorem Kl{on:Bool}(h:p7 (eR 2 16 dx) (eR 4 32 dy) (nh on) f):A0 f dx dy on:=⟨F1 (by unfold AW;decide+kernel) h.1.1.1 h.1.1.2,F1 (by unfold AW;decide+kernel) h.1.2.1 h.1.2.2,by rw[h.2];exact S2 on⟩
theorem Cb(dx dy)(on):p7 (eR 2 16 dx) (eR 4 32 dy) (nh on) (lF dx dy on)∧wc (lF dx dy on)∧p7 (eR 2 16 dx) (eR 4 32 dy) (nh on) (Builtin.bitOr (lF dx dy on) 8):=Z2 _ (FY 2 16 dx) _ (FY 4 32 dy) _ (S1 on)
theorem Cc(dx dy)(on):A0 (lF dx dy on) dx dy on:=Kl (Cb dx dy on).1
theorem Cd(dx dy)(on):A0 (Builtin.bitOr (lF dx dy on) 8) dx dy on:=Kl (Cb dx dy on).2.2
theorem Ce(dx dy)(on):wc (lF dx dy on):=(Cb dx dy on).2.1
abbrev OC(b:List UInt8)(i:Nat):AC:=.inst 714 [(aH,.bytes b),(bF,.int i)]
theorem DT:oW (n+2) 714 none [.bytes b]=some (.fresh (OC b 0),none):=oR (by kernel_rfl)
theorem oX(h:b.drop i=x::r):oW (n+2) 690 (some (OC b i)) []=some (.val (.int x.toNat),some (OC b (i+1))):=by
 exists Jh,Gf,[.own (OC b i)]
 have hl:i+1≤b.length:=yB (c:=[x]) h (by simp)
 have e:((i:Int)+1-1).toNat=i:=congrArg toNat (add_sub_cancel ..)
 have e1:(b.drop i).take (1:Int).toNat=[x]:=by rw[h];rfl
 have e2:((i:Int)+1)=((i+1:Nat):Int):=by lia
 simp![uK,e,e1,show([x].getD (0:Int).toNat 0)=x from rfl]
 rfl
theorem sE(h:b.drop i=aB x++r):oW (n+2) 697 (some (OC b i)) []=some (.val (.int (x%65536)),some (OC b (i+2))):=by
 exists Jk,Gi,[.own (OC b i)]
 have hl:i+2≤b.length:=yB h (by rw[fG];lia)
 have e:((i:Int)+2-2).toNat=i:=congrArg toNat (add_sub_cancel ..)
 simp![l7,e,lB h]
 rfl
theorem vK(h:b.drop i=aB x++r)(h0: -32768≤x)(h1:x<32768):oW (n+3) 704 (some (OC b i)) []=some (.val (.int x),some (OC b (i+2))):=by
 exists Jj,Gh,[.own (OC b i)]
 have hl:i+2≤b.length:=yB h (by rw[fG];lia)
 have e:((i:Int)+2-2).toNat=i:=congrArg toNat (add_sub_cancel ..)
 simp![Es,e,wq h h0 h1]
 rfl
theorem DZ(h:b.drop i=c++r)(hi:i+c.length≤b.length)(hk:k=c.length):oW (n+2) 711 (some (OC b i)) [.int k]=some (.val (.bytes c),some (OC b (i+c.length))):=by
 subst hk
 exists Ji,Gg,[.own (OC b i),.val (.int c.length)]
 have e:((i:Int)+c.length-c.length).toNat=i:=congrArg toNat (add_sub_cancel ..)
 have e1:(b.drop i).take ((c.length:Int)).toNat=c:=by rw[toNat_natCast];exact AJ h
 simp![uK,e,e1]
 rfl
inductive A2 {α β:Type} (R:α→β→Prop):List α→List β→Prop
 |nil:A2 R [] []
 |cons {a b l m}:R a b→A2 R l m→A2 R (a::l) (b::m)
theorem A2.length(h:A2 R l m):l.length=m.length:=by
 induction h with
 |nil=>rfl
 |cons _ _ ih=>exact congrArg Nat.succ ih
theorem A2.app(h:A2 R l m)(h':A2 R l' m'):A2 R (l++l') (m++m'):=by
 induction h with
 |nil=>exact h'
 |cons a _ ih=>exact .cons a ih
theorem A2.rep(h:R a b)(n):A2 R (replicate n a) (replicate n b):=by
 induction n with
 |zero=>exact .nil
 |succ n ih=>exact .cons h ih
inductive Enc:List Int→List UInt8→List Int→Prop
 |nil:Enc [] [] []
 |one {f r bs r'}:0≤f∧f<256∧Builtin.bitAnd f 8=0→Enc r bs r'→Enc (f::r) (UInt8.ofNat f.toNat::bs) (f::r')
 |run {f r bs r'} (m:Nat):0≤f∧f<256∧Builtin.bitAnd f 8=0→m≤199→Enc r bs r'→Enc (replicate (m+1) f++r) (UInt8.ofNat (Builtin.bitOr f 8).toNat::UInt8.ofNat m::bs) (replicate (m+1) (Builtin.bitOr f 8)++r')
def Fw(f f':Int):Prop:=f'=f∨f'=Builtin.bitOr f 8
theorem Enc.rel(h:Enc l bs l'):A2 Fw l l':=by
 induction h with
 |nil=>exact .nil
 |one _ _ ih=>exact .cons (.inl rfl) ih
 |run m _ _ _ ih=>exact(A2.rep (.inr rfl) _).app ih
theorem NF:∀k:Nat,k<256→Builtin.bitAnd (k:Int) 8=0→(Builtin.bitOr (k:Int) 8=((k+8:Nat):Int)∧k+8<256∧Builtin.bitAnd ((k+8:Nat):Int) 8≠0):=by decide+kernel
theorem Nj(h:0≤n∧n≤1000∧a.length=1):fZ .mul (.lst a) (.int n)=some (.lst (r9 n.toNat a)):=kK (by rw[h.2.2];exact⟨h.1,Int.le_trans h.2.1 (by decide),(Nat.one_mul _).symm▸Int.toNat_le.mpr (Int.le_trans h.2.1 (by decide))⟩)
theorem af7(h:0≤n∧n≤1000):fZ .mul (.bytes [x]) (.int n)=some (.bytes (r9 n.toNat [x])):=kK ⟨h.1,Int.le_trans h.2 (by decide),(by decide:1≤16),rfl⟩
theorem rep1(n:Nat)(x:α):r9 n [x]=replicate n x:=by
 unfold r9;induction n with
 |zero=>rfl
 |succ n ih=>rw[replicate_succ,flatten_cons,ih];rfl
def kz(b:List UInt8)(L i:Nat)(f:List Int)(s:Slot×Slot):St:=[.own (OC b i),.val (.int L),.val (.lst (f.map .int)),s.1,s.2]
def rfT(n:Nat):St→Option (Bool×St):=iJ (ev ag.T (oW (n+2)) (.cmp .lt (.blt .len (.cons (.var 2) .nil)) (.var 1)))
theorem Eo:eK (ev ag.T (oW (n+2)) (.cmp .lt (.blt .len (.cons (.var 2) .nil)) (.var 1)) (kz b L i f s))=some (decide ((f.length:Int)<L),kz b L i f s):=by
 dsimp only[kz]
 simp![length_map]
theorem ajj(hl:f.length+1≤200)(h3:b.drop i=UInt8.ofNat x.toNat::r)(hx:0≤x∧x<256∧Builtin.bitAnd x 8=0):bj ag.T (oW (n+2)) 1000 (cj oS 1) (kz b L i f s)=some (.next,kz b L (i+1) (f++[x]) (.val (.int x),.val (.int 1))):=by
 dsimp only[kz,cj,fv,dc,dq,dr,oS]
 have hv:((UInt8.ofNat x.toNat).toNat:Int)=x:=mO hx.1 hx.2.1
 have hm:=Nj (a:=[.int x]) (n:=1) ⟨by decide,by decide,rfl⟩
 rw[rep1]at hm
 have q2:=hx.2.2
 simp![oX h3,hv,q2,hm,ne_eq,not_true_eq_false,Int.toNat_one,length_map,map_append]
theorem ajk(hl:f.length+(m+1)≤200)(hk:k<248)(xW:m≤199)(w3:Builtin.bitAnd ((k+8:Nat):Int) 8≠0)(h3:b.drop i=UInt8.ofNat ((k+8:Nat):Int).toNat::UInt8.ofNat m::r):bj ag.T (oW (n+2)) 1000 (cj oS 1) (kz b L i f s)=some (.next,kz b L (i+2) (f++replicate (m+1) ((k+8:Nat):Int)) (.val (.int ((k+8:Nat):Int)),.val (.int (1+(m:Int))))):=by
 dsimp only[kz,cj,fv,dc,dq,dr,oS]
 have hv:((UInt8.ofNat ((k+8:Nat):Int).toNat).toNat:Int)=((k+8:Nat):Int):=mO (natCast_nonneg _) (ofNat_lt.mpr (Nat.add_lt_add_right hk 8))
 have hv2:((UInt8.ofNat m).toNat:Int)=(m:Int):=mO (k:=m) (natCast_nonneg _) (ofNat_lt.mpr (lt_of_le_of_lt xW (by decide)))
 have hm:=Nj (a:=[.int ((k+8:Nat):Int)]) (n:=1+(m:Int)) ⟨by lia,by lia,rfl⟩
 rw[rep1,show(1+(m:Int)).toNat=1+m from rfl,add_comm 1 m]at hm
 have h6:b.drop (i+1)=UInt8.ofNat m::r:=ew (c:=[UInt8.ofNat ((k+8:Nat):Int).toNat]) h3
 simp![oX h3,hv,w3,oX h6,hv2,hm,ne_eq,not_false_eq_true,length_map,map_append,map_replicate]
theorem NM{α:Type}{a b c F:List α}(h:a++(b++c)=F)(hF:F.length≤k):a.length+b.length≤k:=by
 rw[←h,←append_assoc,length_append,length_append]at hF
 exact le_trans (le_add_right ..) hF
theorem aji{n b tl F J}{kn:St→Option (Res×Option AC)}{kr R}(hF:F.length≤200)(hk:∀s,kn (kz b F.length J F s)=R)(h:Enc rm bs OI):∀(N i) (f:List Int) (s:Slot×Slot),f++OI=F→i+bs.length=J→b.drop i=bs++tl→OI.length<N→cn (gE kn kr) (gS (rfT n) (bj ag.T (oW (n+2)) 1000 (cj oS 1)) N (kz b F.length i f s))=R:=by
 induction h with
 |nil=>
  intro N i f s e1 e2 e3 e4
  cases N with
  |zero=>exact absurd e4 (not_lt_zero _)
  |succ N=>
   cases e2
   rw[append_nil]at e1
   cases e1
   exact(congrArg _ (v7 (Eo.trans (congrArg (fun z=>some (z,_)) (decide_eq_false (Int.lt_irrefl _)))))).trans (hk s)
 |@one x r bs r' hf _ ih=>
  intro N i f s e1 e2 e3 e4
  cases N with
  |zero=>exact absurd e4 (not_lt_zero _)
  |succ N=>exact(congrArg _ (v8 (Eo.trans (congrArg (fun z=>some (z,_)) (decide_eq_true (ofNat_lt.mpr (e1▸length_append▸lt_add_of_pos_right (succ_pos _)))))) (ajj (NM (b:=[x]) e1 hF) e3 hf))).trans (ih N _ _ _ ((append_assoc ..).trans e1) ((succ_add_eq_add_succ ..).trans e2) (ew (c:=[UInt8.ofNat x.toNat]) e3) (Nat.lt_of_succ_lt_succ e4))
 |@run x r bs r' m hf hm _ ih=>
  intro N i f s e1 e2 e3 e4
  obtain⟨k,rfl⟩:=eq_ofNat_of_zero_le hf.1
  have w:=NF k (ofNat_lt.mp hf.2.1) hf.2.2
  rw[w.1]at e1 e3 e4
  rw[length_append,length_replicate]at e4
  cases N with
  |zero=>exact absurd e4 (not_lt_zero _)
  |succ N=>exact(congrArg _ (v8 (Eo.trans (congrArg (fun z=>some (z,_)) (decide_eq_true (ofNat_lt.mpr (e1▸length_append▸lt_add_of_pos_right (succ_pos _)))))) (ajk (le_trans (add_le_add_left (le_of_eq length_replicate.symm) _) (NM e1 hF)) (Nat.lt_of_add_lt_add_right (n:=8) w.2.1) hm w.2.2 e3))).trans (ih N _ _ _ ((append_assoc ..).trans e1) ((succ_add_eq_add_succ ..).trans ((congrArg (· +1) (succ_add_eq_add_succ ..)).trans e2)) (ew (c:=[UInt8.ofNat ((k+8:Nat):Int).toNat,UInt8.ofNat m]) e3) (lt_of_le_of_lt (le_add_left _ m) (Nat.lt_of_succ_lt_succ (Nat.succ_add m _▸e4))))
theorem ai4{n b fl bs cR tl}(h:Enc fl bs cR)(hd:b.drop i=bs++tl)(hl:fl.length≤200):∃j,b.drop j=tl∧oW (n+3) 725 (some (OC b i)) [.int fl.length]=some (.val (.lst (cR.map .int)),some (OC b j)):=by
 have hlen:=h.rel.length
 rw[hlen]at hl ⊢
 refine⟨_,ew hd,?_⟩
 exists JW,oS,[.own (OC b i),.val (.int cR.length),.no,.no,.no]
 simp![m6]
 refine aji (J:=i+bs.length) hl (fun s=> ?_) h 1000 i [] (.no,.no) rfl rfl hd (by lia)
 dsimp only[kz]
 simp![length_map]
noncomputable def dJ(x:Int):List Int→List UInt8
 |[]=>[]
 |v::r=>eF (v-x)++dJ v r
theorem FZ(x v)(r):dJ x (v::r)=eF (v-x)++dJ v r:=rfl
theorem F0(x):dJ x []=[]:=rfl
inductive l9 (short same:Int):Int→List Int→List Int→Prop
 |nil {x}:l9 short same x [] []
 |cons {x f fl v vs}:m7 short same f (v-x)→l9 short same v fl vs→l9 short same x (f::fl) (v::vs)
theorem l9.length(h:l9 sh sa x fl vs):fl.length=vs.length:=by
 induction h with
 |nil=>rfl
 |cons _ _ ih=>exact congrArg Nat.succ ih
def Bd(vs:List Int):Prop:=∀v∈vs,-9000≤v∧v≤9000
theorem SW:eF 0=[]:=if_pos rfl
theorem SY(h:0<d)(h1:d<256):eF d=[UInt8.ofNat d.toNat]:=(if_neg (by omega)).trans (if_pos ⟨h,h1⟩)
theorem SX(h: -256<d)(h1:d<0):eF d=[UInt8.ofNat (-d).toNat]:=(if_neg (by omega)).trans ((if_neg (by omega)).trans (if_pos ⟨h,h1⟩))
theorem S0(h0:d≠0)(h1:¬(0<d∧d<256))(h2:¬(-256<d∧d<0)):eF d=aB d:=(if_neg h0).trans ((if_neg h1).trans (if_neg h2))
def BD(n:Nat):AV→St→Option (br×St):=eG (.one 6) (bj ag.T (oW (n+3)) 1000 (cj wK 2))
def o4(b:List UInt8)(FL:Slot)(sh sa:Int)(i:Nat)(w:List AV)(at_:Int)(s6 s7:Slot):St:=[.own (OC b i),FL,.val (.int sh),.val (.int sa),.own (.lst w),.val (.int at_),s6,s7]
theorem XK{FL:Slot}{w:List AV}(ha:m7 sh sa f d)(hd:b.drop i=eF d++r)(hw:w.length≤1000)(h0: -20000≤d)(h1:d≤20000):
  ∃lq,BD n (.int f) (o4 b FL sh sa i w at_ s6 s7)=some (.next,o4 b FL sh sa (i+(eF d).length) (w++[.int (at_+d)]) (at_+d) (.val (.int f)) lq):=by
 unfold BD o4
 dsimp only[cj,fv,dc,dq,dr,wK]
 refine ha.elim (fun h=>⟨s7,?_⟩) fun h=>h.elim (fun h=>⟨.val (.int d),?_⟩) fun h=>h.elim (fun h=>⟨.val (.int (-d)),?_⟩) fun h=>⟨s7,?_⟩
 ·have q:=h.2.2
  rw[h.1,SW,Int.add_zero]
  simp![h.2.1,q,ne_eq,not_true_eq_false,not_false_eq_true,dR]
 ·rw[SY h.1 h.2.1]at hd ⊢
  have hv:((UInt8.ofNat d.toNat).toNat:Int)=d:=mO (Int.le_of_lt h.1) h.2.1
  have q1:=h.2.2.1
  have q2:=h.2.2.2
  simp![q1,q2,oX hd,hv,ne_eq,not_true_eq_false,not_false_eq_true,dR]
 ·rw[SX h.1 h.2.1]at hd ⊢
  have hv:((UInt8.ofNat (-d).toNat).toNat:Int)= -d:=mO (by omega) (by omega)
  have q1:=h.2.2.1
  have q2:=h.2.2.2
  simp![q1,q2,oX hd,hv,Int.sub_neg,ne_eq,not_true_eq_false,not_false_eq_true,dR]
 ·rw[S0 h.1 h.2.1 h.2.2.1]at hd ⊢
  have q1:=h.2.2.2.1
  have q2:=h.2.2.2.2
  simp![q1,q2,vK hd (by omega) (by omega),ne_eq,not_true_eq_false,not_false_eq_true,dR]
  rfl
structure DI (b tl:List UInt8) (vs:List Int) (sh sa:Int) (e:Nat) (us:List Int) (i:Nat) (w:List AV) (at_:Int) (vr:List Int):Prop where
 f:l9 sh sa at_ us vr
 w:w++vr.map .int=vs.map .int
 d:b.drop i=dJ at_ vr++tl
 e:i+(dJ at_ vr).length=e
 b:Bd vr
 x: -9000≤at_∧at_≤9000
theorem DI.next{n:Nat}{b tl:List UInt8}{vs:List Int}{sh sa:Int}{e:Nat}{u:Int}{w}{FL s6 s7:Slot}(h:DI b tl vs sh sa e (u::us) i w at_ vr)(hl:vs.length≤1000):
  ∃i' w' at' s6' lq,BD n (.int u) (o4 b FL sh sa i w at_ s6 s7)=some (.next,o4 b FL sh sa i' w' at' s6' lq)∧∃vr,DI b tl vs sh sa e us i' w' at' vr:=by
 have hd:=h.d
 have he:=h.e
 have hw:=h.w
 have hx:=h.x
 have hb:=h.b
 cases h.f with|@cons _ _ _ v PJ ha hr=>
 have hv:=hb v (.head _)
 have hd2:b.drop i=eF (v-at_)++(dJ v PJ++tl):=hd.trans (append_assoc ..)
 have Le:=congrArg List.length hw
 rw[length_append,length_map,length_map]at Le
 have ev:at_+(v-at_)=v:=(Int.add_comm ..).trans (Int.sub_add_cancel v at_)
 refine(XK (n:=n) (FL:=FL) (at_:=at_) (s6:=s6) (s7:=s7) (w:=w) ha hd2 (le_trans (le_add_right ..) (Le▸hl)) (Int.le_trans (by decide:(-20000:Int)≤ -9000-9000) (Int.sub_le_sub hv.1 hx.2)) (Int.le_trans (Int.sub_le_sub hv.2 hx.1) (by decide:(9000 - -9000:Int)≤20000))).elim fun lq k=> ?_
 rw[ev]at k
 refine⟨_,_,_,_,_,k,PJ,hr,(append_assoc ..).trans hw,ew hd2,?_,fun x hx=>hb x (.tail _ hx),hv⟩
 rw[←he,FZ,length_append,add_assoc]
theorem Oy{n b fl vs tl}(h:l9 sh sa 0 fl vs)(hb:Bd vs)(hd:b.drop i=dJ 0 vs++tl)(hl:fl.length≤200):
  ∃j,b.drop j=tl∧oW (n+4) 732 (some (OC b i)) [.lst (fl.map .int),.int sh,.int sa]=some (.fresh (.lst (vs.map .int)),some (OC b j)):=by
 refine⟨i+(dJ 0 vs).length,ew hd,?_⟩
 have dE:=h.length
 exists JT,wK,[.own (OC b i),.val (.lst (fl.map .int)),.val (.int sh),.val (.int sa),.no,.no,.no,.no]
 simp![]
 refine aau AV.int (o4 b (.val (.lst (fl.map .int))) sh sa) (fun us i' w at_ _ _=>∃vr,DI b tl vs sh sa (i+(dJ 0 vs).length) us i' w at_ vr) fl i [] 0 .no .no ⟨vs,h,rfl,hd,rfl,hb,by decide⟩ (fun u us i' w at_ s6 s7 h=>h.elim fun vr h=>DI.next (n:=n) h (by omega)) fun i' w at_ s6 s7 h=>h.elim fun vr h=> ?_
 have hw:=h.w
 have he:=h.e
 cases h.f
 rw[map_nil,append_nil]at hw
 have he:i'=_:=he
 rw[hw,he,o4]
 simp![]
noncomputable def cM:Int→List (List Pt)→List Int
 |_,[]=>[]
 |a,c::cs=>(a+c.length)::cM (a+c.length) cs
theorem xi(a)(c:List Pt)(cs):cM a (c::cs)=(a+c.length)::cM (a+c.length) cs:=rfl
theorem IT(a):cM a []=[]:=rfl
noncomputable def pE:List Int→List UInt8
 |[]=>[]
 |x::r=>aB x++pE r
theorem NG(x)(r):pE (x::r)=aB x++pE r:=rfl
theorem nz(a)(cs:List (List Pt)):(cM a cs).length=cs.length:=by
 induction cs generalizing a with
 |nil=>rfl
 |cons c cs ih=>exact congrArg Nat.succ (ih _)
theorem Yt(a:Int)(cs:List (List Pt))(h:cs≠[]):∃E,cM a cs=E++[a+cs.flatten.length]:=by
 induction cs generalizing a with
 |nil=>exact absurd rfl h
 |cons c cs ih=>
  cases cs with
  |nil=>exact⟨[],by rw[xi,IT,flatten_cons,List.flatten_nil,append_nil];rfl⟩
  |cons d cs=>
   refine(ih (a+c.length) (cons_ne_nil _ _)).elim fun E h=>⟨(a+c.length)::E,?_⟩
   have e:a+((c::d::cs).flatten.length:Int)=a+c.length+((d::cs).flatten.length:Int):=by rw[flatten_cons,length_append,natCast_add,Int.add_assoc]
   rw[xi,h,e];rfl
theorem pA(l:List Int):(pE l).length=2*l.length:=by
 induction l with
 |nil=>rfl
 |cons x r ih=>rw[NG,length_append,ih,fG,length_cons,mul_succ,add_comm]
def o5(b:List UInt8)(C:Slot)(i:Nat)(w:List AV)(s3 s4:Slot):St:=[.own (OC b i),C,.own (.lst w),s3,s4]
def Fn(w:List AV)(a:Int):Prop:=(w=[]∧a= -1)∨∃F,w=F++[.int a]
theorem Yw{w:List AV}(hd:b.drop i=aB c++r)(h0: -1≤a)(h1:a<c)(h2:c≤1000)(hw:w.length≤1000)(h:Fn w a):
  eG (.one 3) (bj ag.T (oW (n+2)) 1000 (cj th 1)) x (o5 b C i w s3 s4)=some (.next,o5 b C (i+2) (w++[.int c]) (.val x) (.val (.int c))):=by
 unfold o5
 dsimp only[cj,fv,dc,dq,dr,th]
 have e:c%65536=c:=emod_eq_of_lt (by omega) (by omega)
 have r1:=sE (n:=n) hd
 rw[e]at r1
 refine h.elim (fun h=> ?_) fun h=>h.elim fun F h=> ?_
 ·rw[h.1]
  have:=h.2
  have c0:decide (([]:List AV)≠[])=false:=rfl
  simp![r1,c0,dR]
 ·subst h
  have c1:decide (F++[AV.int a]≠[])=true:=decide_eq_true fun h=>nomatch List.append_eq_nil_iff.mp h |>.2
  rw[length_append,length_singleton]at hw
  simp![r1,c1,dR]
structure EI (b tl:List UInt8) (cs:List (List Pt)) (e m i:Nat) (w:List AV) (a:Int) (cr:List (List Pt)):Prop where
 m:m=cr.length
 g:w++(cM a cr).map .int=(cM (-1) cs).map .int
 d:b.drop i=pE (cM a cr)++tl
 e:i+(pE (cM a cr)).length=e
 lo: -1≤a
 hi:a+cr.flatten.length≤200
 k:Fn w a
 ne:∀c∈cr,c≠[]
theorem EI.next{n:Nat}{b tl:List UInt8}{cs:List (List Pt)}{e m i:Nat}{w:List AV}{a:Int}(h:EI b tl cs e (m+1) i w a cr)(hn:cs.length≤100):
  ∃i' w' s3' s4',eG (.one 3) (bj ag.T (oW (n+2)) 1000 (cj th 1)) x (o5 b C i w s3 s4)=some (.next,o5 b C i' w' s3' s4')∧∃a cr,EI b tl cs e m i' w' a cr:=by
 have hm:=h.m
 cases cr with
 |nil=>cases hm
 |cons c cr=>
 have hd:b.drop i=aB (a+c.length)++(pE (cM (a+c.length) cr)++tl):=h.d.trans (append_assoc ..)
 have hi:=h.hi
 have he:=h.e
 have hw:=congrArg List.length h.g
 have lo:=h.lo
 have hp:=List.length_pos_iff.mpr (h.ne c (.head _))
 rw[flatten_cons,length_append]at hi
 rw[length_append,length_map,length_map,nz,nz]at hw
 refine⟨_,_,_,_,Yw (n:=n) hd lo (by omega) (by omega) (by omega) h.k,a+c.length,cr,Nat.succ.inj hm,(append_assoc ..).trans h.g,ew hd,?_,by omega,by omega,.inr ⟨w,rfl⟩,fun d hd=>h.ne d (.tail _ hd)⟩
 rw[←he,xi,NG,length_append,fG,add_assoc]
theorem ai3{n b tl}{i:Nat}(hc:∀c∈cs,c≠[])(hl:cs.flatten.length≤200)(hn:cs.length≤100)(hd:b.drop i=pE (cM (-1) cs)++tl):
  ∃j,b.drop j=tl∧oW (n+3) 739 (some (OC b i)) [.int cs.length]=some (.fresh (.lst ((cM (-1) cs).map .int)),some (OC b j)):=by
 refine⟨i+(pE (cM (-1) cs)).length,ew hd,?_⟩
 exists JV,th,[.own (OC b i),.val (.int cs.length),.no,.no,.no]
 simp![]
 rw[Er]
 refine aat (fun i:Nat=>.int i) (o5 b (.val (.int cs.length))) (fun us i' w _ _=>∃a cr,EI b tl cs (i+(pE (cM (-1) cs)).length) us.length i' w a cr) (List.range _) i [] .no .no ⟨-1,cs,length_range,rfl,hd,rfl,by decide,by omega,.inl ⟨rfl,rfl⟩,hc⟩ (fun u us i' w s3 s4 h=>h.elim fun a h=>h.elim fun cr h=>EI.next (n:=n) h hn) fun i' w s3 s4 h=>h.elim fun a h=>h.elim fun cr h=> ?_
 have hm:cr=[]:=List.eq_nil_of_length_eq_zero h.m.symm
 subst hm
 have hw:w++[]=_:=h.g
 have he:i'=_:=h.e
 rw[append_nil]at hw
 rw[hw,he,o5]
 simp![]
theorem agq{α:Type}{b:List α}{i:Nat}{c r:List α}(h:b.drop i=c++r):b.drop (i+c.length)=r:=by
 rw[←drop_drop,h,drop_left' rfl]
noncomputable def tH(P E:Slot)(w:List AV)(p:Nat)(s:Slot):St:=[P,E,.own (.lst w),.val (.int p),s]
theorem WY{n:Nat}{E s:Slot}{w:List AV}{ps c r:List Pt}{p:Nat}{x:Int}(hd:ps.drop p=c++r)(hp:p+c.length≤ps.length)(hx:x+1=(p+c.length:Nat))(hw:w.length≤1000):
  eG (.one 4) (bj ag.T (oW n) 1000 (cj wH 2)) (.int x) (tH (.val (.lst (ps.map bo))) E w p s)=some (.next,tH (.val (.lst (ps.map bo))) E (w++[aY c]) (p+c.length) (.val (.int x))):=by
 unfold tH
 dsimp only[cj,fv,dc,dq,dr,wH]
 have e1:part (ps.map bo) (some (p:Int)) (some ((p+c.length:Nat):Int))=c.map bo:=by
  rw[NH _ (by rw[length_map];exact hp),←List.map_drop,hd,map_append]
  exact take_left' (length_map _)
 simp![hx,e1,dR]
 rfl
structure CI (cs:List (List Pt)) (us:List Int) (w:List AV) (p:Nat) (a:Int) (cr:List (List Pt)):Prop where
 u:us=cM a cr
 w:w++cr.map aY=cs.map aY
 a:a+1=(p:Int)
 d:cs.flatten.drop p=cr.flatten
 l:p+cr.flatten.length=cs.flatten.length
theorem W0{n}{cs:List (List Pt)}(hl:cs.flatten.length≤200)(hn:cs.length≤100):
  oW (n+1) 610 none [.lst (cs.flatten.map bo),.lst ((cM (-1) cs).map .int)]=some (.fresh (.lst (cs.map aY)),none):=by
 exists JB,wH,[.val (.lst (cs.flatten.map bo)),.val (.lst ((cM (-1) cs).map .int)),.no,.no,.no]
 simp![]
 refine Ku AV.int (tH (.val (.lst (cs.flatten.map bo))) (.val (.lst ((cM (-1) cs).map .int)))) (fun us w p _=>∃a cr,CI cs us w p a cr) (cM (-1) cs) [] 0 .no ⟨-1,cs,rfl,rfl,rfl,rfl,zero_add _⟩ (fun u us w p s h=>h.elim fun a h=>h.elim fun cr h=> ?_) fun w p s h=>h.elim fun a h=>h.elim fun cr h=> ?_
 ·have hu:=h.u
  cases cr with
  |nil=>cases hu
  |cons c cr=>
  have hd:cs.flatten.drop p=c++cr.flatten:=h.d
  have ha:=h.a
  have hl:=h.l
  rw[flatten_cons,length_append]at hl
  have hw:=congrArg List.length h.w
  rw[length_append,length_map,length_map]at hw
  have e:u=a+c.length:=head_eq_of_cons_eq hu
  refine⟨_,_,_,WY (n:=n) hd (by omega) (by omega) (by omega),a+c.length,cr,List.tail_eq_of_cons_eq hu,(append_assoc ..).trans h.w,by omega,agq hd,(add_assoc ..).trans hl⟩
 ·have hm:cr=[]:=by
   have:=congrArg List.length h.u
   rw[nz]at this
   exact List.eq_nil_of_length_eq_zero this.symm
  subst hm
  have hw:w++[]=_:=h.w
  rw[append_nil]at hw
  rw[hw,tH]
  simp![]
inductive jm:Int→Int→List Int→List Pt→Prop
 |nil {x y}:jm x y [] []
 |cons {x y f fl p pts}:m7 2 16 f (p.1-x)→m7 4 32 f (p.2.1-y)→decide (Builtin.bitAnd f 1≠0)=p.2.2→jm p.1 p.2.1 fl pts→jm x y (f::fl) (p::pts)
theorem jm.xs(h:jm x y fl pts):l9 2 16 x fl (pts.map (·.1)):=by
 induction h with
 |nil=>exact .nil
 |cons a _ _ _ ih=>exact .cons a ih
theorem jm.ys(h:jm x y fl pts):l9 4 32 y fl (pts.map (·.2.1)):=by
 induction h with
 |nil=>exact .nil
 |cons _ a _ _ ih=>exact .cons a ih
theorem jm.on(h:jm x y fl pts):∀(i:Nat) (p:Pt),pts[i]? =some p→∃f,fl[i]? =some f∧decide (Builtin.bitAnd f 1≠0)=p.2.2:=by
 induction h with
 |nil=>exact fun i p h=>nomatch h
 |cons _ _ c _ ih=>
  intro i p e
  cases i with
  |zero=>exact⟨_,rfl,Option.some.inj e▸c⟩
  |succ i=>exact ih i p e
theorem jm.length(h:jm x y fl pts):fl.length=pts.length:=by have:=h.xs.length;rwa [length_map]at this
def sH(pts:List Pt):Prop:=∀p∈pts,-9000≤p.1∧p.1≤9000∧ -9000≤p.2.1∧p.2.1≤9000
theorem pj{l:List Int}{i:Nat}(h:l[i]? =some v):bt (.lst (l.map .int)) (.int (i:Nat))=some (.int v):=kB (by lia) (by rw[toNat_natCast,getElem?_map,h];rfl)
theorem ai9{n b tl bs fl cR}{i k:Nat}(hc:∀c∈cs,c≠[])(iI:cs≠[])(hl:cs.flatten.length≤200)(hn:cs.length≤100)(hk:k≤100)(hb:sH cs.flatten)
  (he:Enc fl bs cR) (hf:jm 0 0 cR cs.flatten)
  (hd:b.drop i=pE (cM (-1) cs)++(aB k++(replicate k 0++(bs++(dJ 0 (cs.flatten.map (·.1))++(dJ 0 (cs.flatten.map (·.2.1))++tl)))))) (hi:i≤b.length):
  ∃c,oW (n+5) 744 (some (OC b i)) [.int cs.length]=some (.fresh (eg cs (replicate k 0)),some c):=by
 obtain⟨E,hE⟩:=Yt (-1) cs iI
 refine qN (ai3 (n:=n+1) hc hl hn hd) fun i1 uf r1=> ?_
 have hd2:=ew uf
 have hw:((k:Int))%65536=k:=emod_eq_of_lt (by lia) (by lia)
 have K3:=ew hd2
 rw[fG]at hd2 K3
 have jC:=yB uf (by rw[fG];lia)
 have pe:i1+2+(replicate k (0:UInt8)).length≤b.length:=by
  have:=congrArg List.length hd2
  rw[length_drop,length_append]at this
  rw[fG]at jC
  lia
 have j7:=he.rel.length
 have an0:=hf.length
 refine qN (ai4 (n:=n+1) he K3 (by lia)) fun i4 hd4 r4=> ?_
 refine qN (Oy (n:=n) hf.xs (fun v hv=>by
  obtain⟨p,hp,rfl⟩:=mem_map.mp hv
  exact⟨(hb p hp).1,(hb p hp).2.1⟩) hd4 (by lia)) fun i5 hd5 r5=> ?_
 refine qN (Oy (n:=n) hf.ys (fun v hv=>by
  obtain⟨p,hp,rfl⟩:=mem_map.mp hv
  exact⟨(hb p hp).2.2.1,(hb p hp).2.2.2⟩) hd5 (by lia)) fun i6 hd6 r6=> ?_
 have hE2:bt (.lst ((cM (-1) cs).map .int)) (.int (-1))=some (.int (-1+cs.flatten.length)):=by rw[hE,map_append];exact sq
 have c1:decide ((cM (-1) cs).map AV.int≠[])=true:=by rw[hE];simp
 have ec:(-1:Int)+(cs.flatten.length:Int)+1=fl.length:=by lia
 refine⟨OC b i6,?_⟩
 exists J1,GS,[.own (OC b i),.val (.int cs.length),.no,.no,.no,.no,.no,.no,.no]
 simp![r1,c1,sE uf,hw,DZ hd2 pe (k:=(k:Int)) (by rw[length_replicate]),hE2,ec,r4,r5,r6]
 refine w8 (σ:=Slot) (fun s=>[.own (OC b i6),.val (.int cs.length),.val (.lst ((cM (-1) cs).map .int)),.val (.bytes (replicate k 0)),.val (.int fl.length),.val (.lst (cR.map .int)),.val (.lst ((cs.flatten.map (·.1)).map .int)),.val (.lst ((cs.flatten.map (·.2.1)).map .int)),.no,s]) (cs.flatten.map bo) .no rfl (by rw[mX,length_map];lia) (by rw[mX];lia) (fun i x y acc s hx hy fP=>by
  obtain⟨rfl,hi⟩:=vC hx
  refine i3 (kX hy) fun p hp eu _=> ?_
  subst eu
  obtain⟨f,hf1,CA⟩:=hf.on i p hp
  have g1:=pj hf1
  have g2:=pj (l:=cs.flatten.map (·.1)) (v:=p.1) (i:=i) (by rw[getElem?_map,hp];rfl)
  have g3:=pj (l:=cs.flatten.map (·.2.1)) (v:=p.2.1) (i:=i) (by rw[getElem?_map,hp];rfl)
  refine⟨.val (.int i),?_⟩
  simp![g1,g2,g3,CA]
  rfl) fun s=> ?_
 simp![take_succ_cons,take_zero,W0 hl hn,DW]
 rfl
theorem q4(cs):gJ (bl cs)=some (cs.map aY):=rfl
theorem Ea(hl:cs.flatten.length≤1000):oW (n+1) 579 none [(eg cs b).av]=some (.val (.lst (cs.flatten.map bo)),none):=by
 exists Jm,Gl,[.val (eg cs b).av,.no,.no]
 simp![q4]
 generalize hX:cG _ _ _=X
 obtain⟨s,rfl,gf,h1,h2⟩:=Kv (σ:=List (List Pt)×Slot) (fun s=>[.val (.inst 599 [(cD,bl cs),(dz,.bytes b)]),.val (.lst (s.1.flatten.map bo)),s.2])
  (fun xs s=>∃gf,xs=gf.map aY∧s.1++gf=cs) hX ([],.no) rfl ⟨cs,rfl,rfl⟩ (fun x xs s hs=>by
  obtain⟨w,s6⟩:=s
  obtain⟨gf,h1,h2⟩:=hs
  dsimp only at h2 ⊢
  cases gf with
  |nil=>cases h1
  |cons c gf=>
   cases h1
   have dE:=congrArg (fun l=>l.flatten.length) h2
   simp only[flatten_append,flatten_cons,length_append]at dE
   refine⟨(w++[c],.val (aY c)),?_,gf,rfl,by rw[←h2];simp⟩
   dsimp only[aY]
   simp![]
   simp)
 cases gf with
 |cons=>cases h1
 |nil=>
  rw[append_nil]at h2
  simp![h2]
theorem Yu(hn:cs.length≤1000):oW (n+1) 586 none [(eg cs b).av]=some (.fresh (.lst ((cM (-1) cs).map .int)),none):=by
 exists Jl,Gk,[.val (eg cs b).av,.no,.no,.no]
 simp![q4]
 generalize hX:cG _ _ _=X
 obtain⟨s,rfl,gf,h1,h2⟩:=Kv (σ:=List Int×Int×Slot) (fun s=>[.val (.inst 599 [(cD,bl cs),(dz,.bytes b)]),.own (.lst (s.1.map .int)),.val (.int s.2.1),s.2.2])
  (fun xs s=>∃gf,xs=gf.map aY∧s.1++cM s.2.1 gf=cM (-1) cs) hX ([],-1,.no) rfl ⟨cs,rfl,rfl⟩ (fun x xs s hs=>by
  obtain⟨w,a,s6⟩:=s
  obtain⟨gf,h1,h2⟩:=hs
  dsimp only at h2 ⊢
  cases gf with
  |nil=>cases h1
  |cons c gf=>
   cases h1
   have dE:=congrArg List.length h2
   rw[length_append,nz,nz,length_cons]at dE
   refine⟨(w++[a+c.length],a+c.length,.val (aY c)),?_,gf,rfl,by rw[←h2,xi];simp⟩
   dsimp only[aY]
   simp![length_map,dR]
   simp)
 cases gf with
 |cons=>cases h1
 |nil=>
  rw[IT,append_nil]at h2
  simp![h2]
theorem ints_of:∀l:List Int,intsOf (l.map .int)=some l
 |[]=>rfl
 |x::r=>by rw[map_cons];show(intsOf (r.map .int)).map (x:: ·)=_;rw[ints_of r];rfl
theorem yI(x)(l:List Int):∃m:Int,aW .min [.lst ((x::l).map .int)]=some (.int m):=by
 refine⟨l.foldl (fun a b=>if b<a then b else a) x,?_⟩
 show aw (intsOf ((x::l).map .int)) (fun is=>hB is fun a r=>some (AV.int (r.foldl _ a)))=_
 rw[ints_of];rfl
theorem yH(x)(l:List Int):∃m:Int,aW .max [.lst ((x::l).map .int)]=some (.int m):=by
 refine⟨l.foldl (fun a b=>if a<b then b else a) x,?_⟩
 show aw (intsOf ((x::l).map .int)) (fun is=>hB is fun a r=>some (AV.int (r.foldl _ a)))=_
 rw[ints_of];rfl
theorem Hq(hl:cs.flatten.length≤1000)(h0:cs.flatten≠[]):∃x y z w:Int,oW (n+2) 596 none [(eg cs b).av]=some (.val (.tup [.int x,.int y,.int z,.int w]),none):=by
 rw[fM (d:=BS) (st:=[.val (eg cs b).av,.no,.no,.no]) rfl rfl rfl]
 dsimp only[BS,Gj]
 have hp:=Ea (n:=n) (b:=b) hl
 rw[eQ]at hp
 cases e:cs.flatten with
 |nil=>exact absurd e h0
 |cons p pts=>
  rw[e]at hp hl
  have c0:decide ((p::pts).map bo=[])=false:=by simp
  obtain⟨m1,h1⟩:=yI p.1 (pts.map (·.1))
  obtain⟨m2,h2⟩:=yI p.2.1 (pts.map (·.2.1))
  obtain⟨m3,h3⟩:=yH p.1 (pts.map (·.1))
  obtain⟨m4,h4⟩:=yH p.2.1 (pts.map (·.2.1))
  refine⟨m1,m2,m3,m4,?_⟩
  generalize hq:p::pts=ps at*
  have e1:(p.1::pts.map (·.1)).map AV.int=(ps.map (·.1)).map .int:=by rw[←hq];rfl
  have e2:(p.2.1::pts.map (·.2.1)).map AV.int=(ps.map (·.2.1)).map .int:=by rw[←hq];rfl
  rw[e1]at h1 h3
  rw[e2]at h2 h4
  simp![hp,c0]
  generalize hX:dS _ _ _ _=X
  obtain⟨s,rfl⟩:=qz hX (σ:=Slot×Slot×Slot) (fun s=>[.val (.inst 599 [(cD,bl cs),(dz,.bytes b)]),.val (.lst (ps.map bo)),.no,.no,s.1,s.2.1,s.2.2]) ((ps.map (·.1)).map .int) (.no,.no,.no) rfl (by simp) (by simp;lia) (fun i x y acc s hx hy fP=>by
   refine i3 (kX hx) fun p hp eu _=> ?_
   subst eu
   rw[getElem?_map,getElem?_map,hp]at hy
   cases hy
   refine⟨(.val (.int p.1),.val (.int p.2.1),.val (.bool p.2.2)),?_⟩
   dsimp only[bo]
   simp![])
  simp![take_succ_cons,take_zero]
  generalize hX:dS _ _ _ _=X
  obtain⟨s,rfl⟩:=qz hX (σ:=Slot×Slot×Slot) (fun s=>[.val (.inst 599 [(cD,bl cs),(dz,.bytes b)]),.val (.lst (ps.map bo)),.val (.lst ((ps.map (·.1)).map .int)),.no,s.1,s.2.1,s.2.2]) ((ps.map (·.2.1)).map .int) (.no,.no,.no) rfl (by simp) (by simp;lia) (fun i x y acc s hx hy fP=>by
   refine i3 (kX hx) fun p hp eu _=> ?_
   subst eu
   rw[getElem?_map,getElem?_map,hp]at hy
   cases hy
   refine⟨(.val (.int p.1),.val (.int p.2.1),.val (.bool p.2.2)),?_⟩
   dsimp only[bo]
   simp![])
  simp![take_succ_cons,take_zero,h1,h2,h3,h4]
theorem UI(l:List (List UInt8)):bytesOf (l.map .bytes)=some l:=by
 induction l with
 |nil=>rfl
 |cons x r ih=>
  show aw (bytesOf (r.map .bytes)) (fun l=>some (x::l))=_
  rw[ih];rfl
theorem LI{l:List (List UInt8)}(h:l.flatten.length≤100000):aW .join [.bytes [],.lst (l.map .bytes)]=some (.bytes l.flatten):=by
 show aw (bytesOf (l.map .bytes)) (fun bs=>aJ (decide (bs.flatten.length≤lim)) (some (AV.bytes bs.flatten)))=_
 rw[UI];exact kK (by unfold lim;omega)
theorem yT:∀l:List Int,(l.map aB).flatten=pE l
 |[]=>rfl
 |x::r=>by rw[map_cons,flatten_cons,yT r];rfl
theorem Hp{n}{x y z w}:oW (n+2) 879 none [.tup [.int x,.int y,.int z,.int w]]=some (.val (.bytes (pE [x,y,z,w])),none):=by
 exists Jx,Gv,[.val (.tup [.int x,.int y,.int z,.int w])]
 simp![]
 refine w8 (σ:=Slot) (fun s=>[.val (.tup [.int x,.int y,.int z,.int w]),s]) (([x,y,z,w].map aB).map .bytes) .no rfl rfl (by show 4≤_;lia) (fun i x1 y1 acc s hx hy fP=>by
  refine i3 (kX (l:=[x,y,z,w]) (f:=AV.int) hx) fun p hp eu _=> ?_
  subst eu
  rw[getElem?_map,getElem?_map,hp]at hy
  cases hy
  exact⟨.val (.int p),by simp![gO]⟩) fun s=> ?_
 have hj:aW .join [.bytes [],.lst [.bytes (aB x),.bytes (aB y),.bytes (aB z),.bytes (aB w)]]=some (.bytes (pE [x,y,z,w])):=by
  rw[←yT];exact LI (l:=[aB x,aB y,aB z,aB w]) (by show 8≤_;lia)
 simp![take_succ_cons,take_zero,hj]
theorem Enc.ones(hf:0≤f∧f<256∧Builtin.bitAnd f 8=0)(h:Enc r bs r'):∀m,Enc (replicate m f++r) (replicate m (UInt8.ofNat f.toNat)++bs) (replicate m f++r')
 |0=>h
 |m+1=>.one hf (Enc.ones hf h m)
noncomputable def cS(fl:List Int)(w:List UInt8)(a:Nat)(s:Slot):St:=[.val (.lst (fl.map .int)),.val (.bytes w),.val (.int a),s]
def pa:ME:=.cv true (.cons (.cmp .lt (.bin .add (.var 2) (.var 3)) (.blt .len (.cons (.var 0) .nil))) (.cons (.cmp .eq (.sub (.var 0) (.bin .add (.var 2) (.var 3))) (.sub (.var 0) (.var 2))) (.cons (.cmp .le (.var 3) (.glob uS (.int 255))) .nil)))
noncomputable def tU:ai:=.cons (.asg 3 false (.bin .add (.var 3) (.con (.int 1)))) .nil
section
variable {n:Nat} {fl:List Int} {w:List UInt8} {a m:Nat} {f g:Int}
theorem aao(hm:m≤200)(ha:fl[a]? =some f)(hg:fl[a+m]? =some g):eK (ev ag.T (oW n) pa (cS fl w a (.val (.int m))))=some (decide (g=f),cS fl w a (.val (.int m))):=by
 have g0:=pj ha
 have g1:=pj hg
 have hl:((a:Int)+m)<fl.length:=ofNat_lt.mpr (List.getElem?_eq_some_iff.mp hg).1
 have hm:(m:Int)≤255:=ofNat_le.mpr (le_trans hm (by decide))
 rw[natCast_add]at g1
 dsimp only[cS,pa]
 by_cases h:g=f
 ·subst h
  simp![g0,g1,length_map]
 ·rw[decide_eq_false h]
  simp![g0,g1,h,length_map]
theorem aai(hm:a+m=fl.length):eK (ev ag.T (oW n) pa (cS fl w a (.val (.int m))))=some (false,cS fl w a (.val (.int m))):=by
 have hl:¬((a:Int)+m)<fl.length:=hm▸Int.lt_irrefl _
 dsimp only[cS,pa]
 simp![length_map]
theorem aal:bj ag.T (oW n) 1000 tU (cS fl w a (.val (.int m)))=some (.next,cS fl w a (.val (.int (m+1:Nat)))):=by
 dsimp only[cS,tU]
 simp![]
 rfl
def qO(n:Nat):Nat→St→Option (br×St):=gS (iJ (ev ag.T (oW n) pa)) (bj ag.T (oW n) 1000 tU)
theorem aak(ha:fl[a]? =some f)(hl:fl.length≤200):∀(r:List Int) (m N:Nat),fl.drop a=replicate m f++r→r.length<N→1≤m→∃m' r',(1≤m'∧a+m'≤fl.length)∧fl.drop a=replicate m' f++r'∧qO n N (cS fl w a (.val (.int m)))=some (.next,cS fl w a (.val (.int m'))):=by
 intro r
 induction r with
 |nil=>
  intro m N e1 e2 e3
  have hm:a+m=fl.length:=by
   have:=congrArg List.length e1
   rw[length_drop,append_nil,length_replicate]at this
   rw[←this];exact add_sub_cancel' (le_of_lt (List.getElem?_eq_some_iff.mp ha).1)
  cases N with
  |zero=>exact absurd e2 (not_lt_zero _)
  |succ N=>exact⟨m,[],⟨e3,le_of_eq hm⟩,e1,v7 (aai hm)⟩
 |cons x r ih=>
  intro m N e1 e2 e3
  have hg:fl[a+m]? =some x:=by
   rw[←getElem?_drop,e1,getElem?_append_right (le_of_eq length_replicate),length_replicate,sub_self];rfl
  have hm:a+m<fl.length:=(List.getElem?_eq_some_iff.mp hg).1
  have t:=aao (n:=n) (w:=w) (le_trans (le_of_lt (lt_of_le_of_lt (le_add_left m a) hm)) hl) ha hg
  cases N with
  |zero=>exact absurd e2 (not_lt_zero _)
  |succ N=>
   by_cases h:x=f
   ·cases h
    rw[decide_eq_true rfl]at t
    exact(ih (m+1) N (by rw[e1,List.replicate_succ',append_assoc];rfl) (Nat.lt_of_succ_lt_succ e2) (succ_pos _)).elim fun m' y=>y.elim fun r' y=>⟨m',r',y.1,y.2.1,(v8 t aal).trans y.2.2⟩
   ·rw[decide_eq_false h]at t
    exact⟨m,x::r,⟨e3,le_of_lt hm⟩,e1,v7 t⟩
theorem aah(ha:fl[a]? =some ((k:Nat):Int))(hl:a+m≤200)(hm:2<m)(hI:qO n 1000 (cS fl w a (.val (.int (1:Nat))))=some (.next,cS fl w a (.val (.int m))))(hb:Builtin.bitOr (k:Int) 8=r)(hr:0≤r∧r<256)(hw:w.length≤1000):
  bj ag.T (oW n) 1000 (cj mj 2) (cS fl w a s)=some (.next,cS fl (w++[UInt8.ofNat r.toNat,UInt8.ofNat (m-1)]) (a+m) (.val (.int m))):=by
 have g0:=pj ha
 have h1:1≤m:=le_of_lt (Nat.lt_of_succ_lt hm)
 have h5:((m-1:Nat):Int)=(m:Int)-1:=Int.ofNat_sub h1
 have e8:((m:Int)-1).toNat=m-1:=congrArg toNat h5.symm
 have h6:0≤(m:Int)-1∧(m:Int)-1<256:=h5▸⟨natCast_nonneg _,ofNat_lt.mpr (lt_of_le_of_lt (le_trans (sub_le m 1) (le_trans (le_add_left m a) hl)) (by decide))⟩
 have hm3:(2:Int)<m:=ofNat_lt.mpr hm
 dsimp only[qO,cS,pa,tU]at hI
 dsimp only[cS,cj,fv,dc,dq,dr,mj]
 simp![m6]
 rw[show((1:Nat):Int)=1 from rfl]at hI
 rw[hI]
 simp![g0,hb,e8]
 rfl
theorem aaj(ha:fl[a]? =some ((k:Nat):Int))(hk:k<256)(hl:a+m≤200)(hm:¬2<m)(hI:qO n 1000 (cS fl w a (.val (.int (1:Nat))))=some (.next,cS fl w a (.val (.int m))))(hw:w.length≤1000):
  bj ag.T (oW n) 1000 (cj mj 2) (cS fl w a s)=some (.next,cS fl (w++replicate m (UInt8.ofNat k)) (a+m) (.val (.int m))):=by
 have g0:=pj ha
 have CM:=af7 (x:=UInt8.ofNat k) (n:=(m:Int)) ⟨natCast_nonneg _,ofNat_le.mpr (le_trans (le_of_not_lt hm) (by decide))⟩
 rw[rep1,toNat_natCast]at CM
 have h4:=le_of_not_lt hm
 have h5:0≤(k:Int)∧(k:Int)<256:=⟨natCast_nonneg _,ofNat_lt.mpr hk⟩
 have hm3:¬(2:Int)<m:=fun q=>hm (ofNat_lt.mp q)
 dsimp only[qO,cS,pa,tU]at hI
 dsimp only[cS,cj,fv,dc,dq,dr,mj]
 simp![m6]
 rw[show((1:Nat):Int)=1 from rfl]at hI
 rw[hI]
 simp![g0,toNat_natCast,CM]
 rfl
theorem aan(hl:fl.length≤200)(ha:fl[a]? =some ((k:Nat):Int))(hk:k<256)(h8:Builtin.bitAnd (k:Int) 8=0)(hw:w.length≤3*a)(y:1≤m∧a+m≤fl.length)(e:fl.drop a=replicate m (k:Int)++r)(hI:qO n 1000 (cS fl w a (.val (.int (1:Nat))))=some (.next,cS fl w a (.val (.int m)))):
  ∃qq,qq.length≤3*m∧(∀wW cR,Enc r wW cR→∃Ca,Enc (fl.drop a) (qq++wW) Ca)∧bj ag.T (oW n) 1000 (cj mj 2) (cS fl w a s)=some (.next,cS fl (w++qq) (a+m) (.val (.int m))):=by
 have hw:=le_trans hw (le_trans (mul_le_mul_left 3 (le_trans (le_trans (le_add_right a m) y.2) hl)) (by decide:3*200≤1000))
 have h2:=le_trans y.2 hl
 have h1:=le_trans (le_add_left m a) h2
 by_cases hm:2<m
 ·have o:=NF k hk h8
  refine⟨_,le_trans (by decide:2≤3*1) (mul_le_mul_left 3 y.1),fun wW cR q=> ?_,aah ha h2 hm hI rfl (o.1▸⟨natCast_nonneg _,ofNat_lt.mpr o.2.1⟩) hw⟩
  have q:=Enc.run (f:=(k:Int)) (m-1) ⟨natCast_nonneg _,ofNat_lt.mpr hk,h8⟩ (Nat.sub_le_of_le_add h1) q
  rw[Nat.sub_add_cancel y.1,←e]at q
  exact⟨_,q⟩
 ·refine⟨_,length_replicate▸Nat.le_mul_of_pos_left m (by decide),fun wW cR q=> ?_,aaj ha hk h2 hm hI hw⟩
  rw[e]
  exact⟨_,Enc.ones (f:=(k:Int)) ⟨natCast_nonneg _,ofNat_lt.mpr hk,h8⟩ q m⟩
end
noncomputable def xw:ME:=.cmp .lt (.var 2) (.blt .len (.cons (.var 0) .nil))
theorem Ko{n fl w a s}:eK (ev ag.T (oW n) xw (cS fl w a s))=some (decide ((a:Int)<fl.length),cS fl w a s):=by
 dsimp only[cS,xw]
 simp![length_map]
def FO(n:Nat)(fl:List Int)(w:List UInt8)(a N:Nat)(s:Slot):Prop:=∃bs cR s',Enc (fl.drop a) bs cR∧bs.length≤3*(fl.length-a)∧gS (iJ (ev ag.T (oW n) xw)) (bj ag.T (oW n) 1000 (cj mj 2)) N (cS fl w a s)=some (.next,cS fl (w++bs) fl.length s')
theorem aam(hl:fl.length≤200)(hf:∀f∈fl,0≤f∧f<256∧Builtin.bitAnd f 8=0):∀(N a:Nat) (w:List UInt8) (s:Slot),a≤fl.length→fl.length-a<N→w.length≤3*a→FO n fl w a N s:=by
 intro N
 induction N with
 |zero=>exact fun _ _ _ _ h=>absurd h (not_lt_zero _)
 |succ N ih=>
  intro a w s h1 h2 h3
  by_cases hc:a<fl.length
  ·have ha:=getElem?_eq_getElem hc
   have hq:=hf _ (getElem_mem hc)
   refine(eq_ofNat_of_zero_le hq.1).elim fun k hk=> ?_
   rw[hk]at ha hq
   refine(aak (n:=n) (w:=w) ha hl (fl.drop (a+1)) 1 1000 (by rw[List.drop_eq_getElem_cons hc,hk];rfl) (by rw[length_drop];exact lt_of_le_of_lt (sub_le _ _) (lt_of_le_of_lt hl (by decide))) (le_refl 1)).elim fun m y=>y.elim fun r y=> ?_
   have d2:fl.drop (a+m)=r:=by rw[←drop_drop,y.2.1];exact drop_left' length_replicate
   refine(aan (s:=s) hl ha (ofNat_lt.mp hq.2.1) hq.2.2 h3 y.1 y.2.1 y.2.2).elim fun qq z=>(ih (a+m) (w++qq) (.val (.int m)) y.1.2 (lt_of_lt_of_le (Nat.sub_lt_sub_left hc (lt_add_of_pos_right y.1.1)) (le_of_lt_succ h2)) (by rw[length_append,Nat.mul_add];exact add_le_add h3 z.1)).elim fun bs u=>u.elim fun cR u=>u.elim fun s' u=>(z.2.1 bs cR (d2▸u.1)).elim fun Ca v=>⟨qq++bs,Ca,s',v,?_,?_⟩
   ·rw[length_append,←add_sub_cancel' (Nat.le_sub_of_add_le' y.1.2),Nat.mul_add,Nat.sub_sub]
    exact add_le_add z.1 u.2.1
   ·rw[←append_assoc]
    exact(v8 (Ko.trans (congrArg (fun z=>some (z,_)) (decide_eq_true (ofNat_lt.mpr hc)))) z.2.2).trans u.2.2
  ·cases le_antisymm h1 (le_of_not_lt hc)
   exact⟨[],[],s,by rw[drop_length];exact .nil,zero_le _,by rw[append_nil];exact v7 (Ko.trans (congrArg (fun z=>some (z,_)) (decide_eq_false (Int.lt_irrefl _))))⟩
theorem Z5(hl:fl.length≤200)(hf:∀f∈fl,0≤f∧f<256∧Builtin.bitAnd f 8=0):∃bs cR,Enc fl bs cR∧bs.length≤3*fl.length∧oW (n+1) 874 none [.lst (fl.map .int)]=some (.val (.bytes bs),none):=by
 refine(aam (n:=n) hl hf 1000 0 [] .no (zero_le _) (lt_of_le_of_lt hl (by decide)) (zero_le _)).elim fun bs u=>u.elim fun cR u=>u.elim fun s' u=>⟨bs,cR,u.1,u.2.1,?_⟩
 have h:=u.2.2
 dsimp only[xw,cS,cj,fv,dc,dq,dr,mj]at h
 rw[nil_append,show((0:Nat):Int)=0 from rfl]at h
 exists JF,mj,[.val (.lst (fl.map .int)),.no,.no,.no]
 simp![m6]
 rw[h]
 simp![]
noncomputable def j4:Int→Int→List Pt→List Int
 |_,_,[]=>[]
 |x,y,p::r=>lF (p.1-x) (p.2.1-y) p.2.2::j4 p.1 p.2.1 r
theorem Z3(x y):j4 x y []=[]:=rfl
theorem xt:∀{x y},(j4 x y pts).length=pts.length:=by
 induction pts with
 |nil=>exact rfl
 |cons p r ih=>exact congrArg Nat.succ ih
theorem Z4:∀{x y},∀f∈j4 x y pts,0≤f∧f<256∧Builtin.bitAnd f 8=0:=by
 induction pts with
 |nil=>exact fun _ h=>nomatch h
 |cons p r ih=>exact fun f h=>(mem_cons.mp h).elim (fun e=>e▸⟨(Ce _ _ _).2.1,(Ce _ _ _).2.2,(Ce _ _ _).1⟩) (ih f)
theorem Z6:∀{x y cR},A2 Fw (j4 x y pts) cR→jm x y cR pts:=by
 induction pts with
 |nil=>intro x y cR h;cases h;exact .nil
 |cons p r ih=>
  intro x y cR h
  cases h with|cons h1 h2=>exact h1.elim (fun e=>e▸.cons (Cc _ _ _).x (Cc _ _ _).y (Cc _ _ _).on (ih h2)) fun e=>e▸.cons (Cd _ _ _).x (Cd _ _ _).y (Cd _ _ _).on (ih h2)
theorem Bb(s):(eF s).length≤2:=by
 unfold eF
 by_cases h:s=0
 ·rw[if_pos h];exact zero_le _
 rw[if_neg h]
 by_cases h:0<s∧s<256
 ·rw[if_pos h];exact le_succ _
 rw[if_neg h]
 by_cases h: -256<s∧s<0
 ·rw[if_pos h];exact le_succ _
 ·rw[if_neg h];exact le_refl _
theorem qh:∀{x},(dJ x vs).length≤2*vs.length:=by
 induction vs with
 |nil=>exact le_refl _
 |cons v r ih=>
  intro x
  have h1:=Bb (v-x)
  have h2:=ih (x:=v)
  rw[FZ,length_append,length_cons,add_comm];exact DH h2 h1
def SO(cs:List (List Pt))(k:Nat)(bx:List Int)(bs:List UInt8):List UInt8:=
 aB cs.length++pE bx++pE (cM (-1) cs)++(aB k++replicate k 0)++bs++dJ 0 (cs.flatten.map (·.1))++dJ 0 (cs.flatten.map (·.2.1))
def In9(x:Int):Prop:= -9000≤x∧x≤9000
theorem ak0{n}{C:Slot}{fl:List Int}{on:Bool}(l1:fl.length≤1000)(l2:ac.length≤1000)(l3:up.length≤1000)(x0: -9000≤x)(x1:x≤9000)(y0: -9000≤y)(y1:y≤9000)(a0: -9000≤a)(a1:a≤9000)(b0: -9000≤b)(b1:b≤9000):
  eG (.many [6,7,8]) (bj ag.T (oW (n+2)) 1000 (cj ti 3)) (.tup [.int a,.int b,.bool on]) [C,.own (.lst (fl.map .int)),.val (.bytes ac),.val (.bytes up),.val (.int x),.val (.int y),s6,s7,s8,s9,sa,sb,sc,.no,.no]=
  some (.next,[C,.own (.lst (fl.map .int++[.int (lF (a-x) (b-y) on)])),.val (.bytes (ac++eF (a-x))),.val (.bytes (up++eF (b-y))),.val (.int a),.val (.int b),.val (.int a),.val (.int b),.val (.bool on),.val (.int (eR 2 16 (a-x))),.val (.bytes (eF (a-x))),.val (.int (eR 4 32 (b-y))),.val (.bytes (eF (b-y))),.no,.no]):=by
 have l4:=Bb (a-x)
 have l5:=Bb (b-y)
 have e1:=F2 (n:=n) (s:=a-x) (sh:=2) (sm:=16) (by omega) (by omega)
 have e2:=F2 (n:=n) (s:=b-y) (sh:=4) (sm:=32) (by omega) (by omega)
 dsimp only[cj,fv,dc,dq,dr,ti]
 cases on<;>simp![e1,e2,dR,length_map]<;>rfl
structure SI (ps us:List Pt) (fl:List Int) (ac up:List UInt8) (x y:Int):Prop where
 f:fl++j4 x y us=j4 0 0 ps
 a:ac++dJ x (us.map (·.1))=dJ 0 (ps.map (·.1))
 u:up++dJ y (us.map (·.2.1))=dJ 0 (ps.map (·.2.1))
 b:sH us
 x0: -9000≤x
 x1:x≤9000
 y0: -9000≤y
 y1:y≤9000
theorem SI.le(h:SI ps us fl ac up x y)(hl:ps.length≤100):fl.length≤100∧ac.length≤200∧up.length≤200:=by
 have l2:=congrArg List.length h.f
 have l3:=congrArg List.length h.a
 have l4:=congrArg List.length h.u
 have a1:=qh (vs:=ps.map (·.1)) (x:=0)
 have a2:=qh (vs:=ps.map (·.2.1)) (x:=0)
 rw[length_append]at l2 l3 l4
 rw[length_map]at a1 a2
 rw[xt (x:=0)]at l2
 have h2:=mul_le_mul_left 2 hl
 exact⟨le_trans (Nat.le.intro l2) hl,le_trans (Nat.le.intro l3) (le_trans a1 h2),le_trans (Nat.le.intro l4) (le_trans a2 h2)⟩
theorem SI.next(h:SI ps (p::us) fl ac up x y):SI ps us (fl++[lF (p.1-x) (p.2.1-y) p.2.2]) (ac++eF (p.1-x)) (up++eF (p.2.1-y)) p.1 p.2.1:=
 have k:=h.b p (.head _)
 ⟨(append_assoc ..).trans h.f,(append_assoc ..).trans h.a,(append_assoc ..).trans h.u,fun q hq=>h.b q (.tail _ hq),k.1,k.2.1,k.2.2.1,k.2.2.2⟩
noncomputable def vM(C:Slot)(fl:List Int)(ac up:List UInt8)(x y:Int)(s:Slot×Slot×Slot×Slot×Slot×Slot×Slot):St:=[C,.own (.lst (fl.map .int)),.val (.bytes ac),.val (.bytes up),.val (.int x),.val (.int y),s.1,s.2.1,s.2.2.1,s.2.2.2.1,s.2.2.2.2.1,s.2.2.2.2.2.1,s.2.2.2.2.2.2,.no,.no]
theorem akY{n}{C:Slot}{ps:List Pt}(hl:ps.length≤100)(hb:sH ps)(hk:∀x y s,kn (vM C (j4 0 0 ps) (dJ 0 (ps.map (·.1))) (dJ 0 (ps.map (·.2.1))) x y s)=R):
  cn (gE kn kr) (cG (eG (.many [6,7,8]) (bj ag.T (oW (n+2)) 1000 (cj ti 3))) (ps.map bo) (vM C [] [] [] 0 0 (.no,.no,.no,.no,.no,.no,.no)))=R:=
 aav bo (vM C) (fun us fl ac up x y _=>SI ps us fl ac up x y) ps [] [] [] 0 0 _ ⟨rfl,rfl,rfl,hb,by decide,by decide,by decide,by decide⟩ (fun p us fl ac up x y s h=>
  have k:=h.next
  have l:=h.le hl
  ⟨fl++[lF (p.1-x) (p.2.1-y) p.2.2],ac++eF (p.1-x),up++eF (p.2.1-y),p.1,p.2.1,(.val (.int p.1),.val (.int p.2.1),.val (.bool p.2.2),.val (.int (eR 2 16 (p.1-x))),.val (.bytes (eF (p.1-x))),.val (.int (eR 4 32 (p.2.1-y))),.val (.bytes (eF (p.2.1-y)))),(ak0 (by omega) (by omega) (by omega) h.x0 h.x1 h.y0 h.y1 k.x0 k.x1 k.y0 k.y1).trans (by rw[vM,map_append];rfl),k⟩) fun fl ac up x y s h=>by
   rw[←hk x y s,←h.f,←h.a,←h.u,Z3,map_nil,map_nil,F0,F0,append_nil,append_nil,append_nil]
theorem akZ(h0:cs.flatten≠[])(hl:cs.flatten.length≤100)(hn:cs.length≤50)(hk:k≤50)(hb:sH cs.flatten):
  ∃x y z w bs cR,Enc (j4 0 0 cs.flatten) bs cR∧bs.length≤3*cs.flatten.length∧oW (n+3) 884 none [(eg cs (replicate k 0)).av]=some (.val (.bytes (SO cs k [x,y,z,w] bs)),none):=by
 refine(Z5 (n:=n+1) (fl:=j4 0 0 cs.flatten) (by rw[xt];omega) Z4).elim fun bs h=>h.elim fun cR h=> ?_
 refine(Hq (n:=n) (b:=replicate k 0) (cs:=cs) (by omega) h0).elim fun x h2=>h2.elim fun y h2=>h2.elim fun z h2=>h2.elim fun w r2=> ?_
 refine⟨x,y,z,w,bs,cR,h.1,xt (pts:=cs.flatten) (x:=0) (y:=0)▸h.2.1,?_⟩
 have xP:=h.2.1
 have r1:=h.2.2
 rw[xt]at xP
 have r3:=Ea (n:=n+1) (b:=replicate k 0) (cs:=cs) (by omega)
 have r4:=Yu (n:=n+1) (b:=replicate k 0) (cs:=cs) (by omega)
 rw[eQ]at r2 r3 r4
 have c0:bh .eq (bl cs) (.lst [])=some false:=by
  cases cs with
  |nil=>exact absurd rfl h0
  |cons=>rfl
 have a1:=qh (vs:=cs.flatten.map (·.1)) (x:=0)
 have a2:=qh (vs:=cs.flatten.map (·.2.1)) (x:=0)
 rw[length_map]at a1 a2
 have b1:=pA (cM (-1) cs)
 rw[nz]at b1
 have b2:(pE [x,y,z,w]).length=8:=pA _
 have hj:aW .join [.bytes [],.lst ((cM (-1) cs).map fun u=>AV.bytes (aB u))]=some (.bytes (pE (cM (-1) cs))):=by
  rw[←yT,←LI (by rw[yT];omega),map_map];rfl
 have hlc:aW .len [bl cs]=some (.int cs.length):=by rw[bl,rd,length_map]
 exists J7,ti,[.val (eg cs (replicate k 0)).av,.no,.no,.no,.no,.no,.no,.no,.no,.no,.no,.no,.no,.no,.no]
 simp![c0,r3]
 refine akY hl hb fun x' y' s=> ?_
 dsimp only[vM]
 simp![r4,LC]
 refine uC AV.int (fun u=>AV.bytes (aB u)) (fun s1=>[.val (.inst 599 [(cD,bl cs),(dz,.bytes (replicate k 0))]),.own (.lst ((j4 0 0 cs.flatten).map .int)),.val (.bytes (dJ 0 (cs.flatten.map (·.1)))),.val (.bytes (dJ 0 (cs.flatten.map (·.2.1)))),.val (.int x'),.val (.int y'),s.1,s.2.1,s.2.2.1,s.2.2.2.1,s.2.2.2.2.1,s.2.2.2.2.2.1,s.2.2.2.2.2.2,.no,.no,s1]) (cM (-1) cs) .no (by rw[nz];omega) (fun u _ acc s1 fP=>⟨.val (.int u),by simp![gO]⟩) fun s1=> ?_
 simp![length_replicate,hj,gO,hlc,r1,r2,Hp]
 rfl
noncomputable def DJ(dx dy:Int)(p:Pt):Pt:=(p.1+dx,p.2.1+dy,p.2.2)
def dN(dx dy:Int)(cs:List (List Pt)):List (List Pt):=cs.map (·.map (DJ dx dy))
theorem Nf(hn:cs.length≤1000)(hc:∀c∈cs,c.length≤1000):
  jx (oW n) (.cons (.ret (.comp 1 (.one 3) (.var 0) .no (.comp 3 (.many [4,5,6]) (.var 3) .no (.tup (.cons (.bin .add (.var 4) (.var 1)) (.cons (.bin .add (.var 5) (.var 2)) (.cons (.var 6) .nil))))))) .nil) (rC none) (lp none) [.val (bl cs),.val (.int x),.val (.int y)]=some (.fresh (.lst ((dN x y cs).map aY)),none):=by
 simp![q4]
 refine w8 (σ:=Slot) (fun s=>[.val (bl cs),.val (.int x),.val (.int y),s]) ((dN x y cs).map aY) .no rfl (by simp[dN]) (by simp;lia) (fun i x1 y1 acc s hx hy fP=>by
  refine i3 (kX hx) fun c hp eu _=> ?_
  subst eu
  rw[dN,getElem?_map,getElem?_map,hp]at hy
  cases hy
  have nN:=hc c (mem_of_getElem? hp)
  refine⟨.val (aY c),?_⟩
  simp![show gJ (aY c)=some (c.map bo)from rfl]
  refine w8 (σ:=Slot×Slot×Slot) (fun s=>[.val (bl cs),.val (.int x),.val (.int y),.val (aY c),s.1,s.2.1,s.2.2]) ((c.map (DJ x y)).map bo) (.no,.no,.no) rfl (by simp) (by simp;lia) (fun i x2 y2 acc s hx hy fP=>by
   refine i3 (kX hx) fun p hp eu _=> ?_
   subst eu
   rw[getElem?_map,getElem?_map,hp]at hy
   cases hy
   refine⟨(.val (.int p.1),.val (.int p.2.1),.val (.bool p.2.2)),?_⟩
   dsimp only[bo,DJ]
   simp![]) fun s2=> ?_
  simp![take_succ_cons,take_zero]
  rfl) fun s=> ?_
 simp![take_succ_cons,take_zero]
theorem af1(hn:cs.length≤1000)(hc:∀c∈cs,c.length≤1000):oW (n+1) 615 none [bl cs,.int x,.int y]=some (.fresh (.lst ((dN x y cs).map aY)),none):=
 (fM (d:=JJ) (st:=[.val (bl cs),.val (.int x),.val (.int y)]) rfl rfl rfl).trans (Nf hn hc)
theorem Mw(hn:cs.length≤1000)(hc:∀c∈cs,c.length≤1000):oW (n+1) 1215 none [bl cs,.int x,.int y]=some (.fresh (.lst ((dN x y cs).map aY)),none):=
 (fM (d:=Jr) rfl rfl rfl).trans (Nf hn hc)
noncomputable abbrev oD:AV:=.tup [.int 16384,.int 0,.int 0,.int 16384]
abbrev eN(g x y:Int):AC:=.inst 770 [(cO,.int g),(fA,.int x),(gu,.int y),(iS,.bool true),(gQ,oD)]
theorem ahg:oW (n+2) 770 none [.int g,.int x,.int y]=some (.fresh (eN g x y),none):=oR (by kernel_rfl)
theorem ahh:oW (n+2) 770 none [.int g,.int x,.int y,.bool true,oD]=some (.fresh (eN g x y),none):=oR (by kernel_rfl)
theorem Vr:bh .ne oD oD=some false:=by kernel_rfl
theorem NI(hn:cs.length≤1000)(hc:∀c∈cs,c.length≤1000):oW (n+2) 860 none [(eN g x y).av,bl cs,o]=some (.fresh (.lst ((dN x y cs).map aY)),none):=by
 exists JM,GC,[.val (eN g x y).av,.val (bl cs),.val o,.no,.no,.no,.no,.no]
 have:=af1 (n:=n) (x:=x) (y:=y) hn hc
 simp![Vr,this]
def sm(x y:Int):Prop:= -128≤x∧x<128∧ -128≤y∧y<128
noncomputable instance (x y:Int):Decidable (sm x y):=by unfold sm;infer_instance
def iC(x y:Int):List UInt8:=if sm x y then [UInt8.ofNat (x%256).toNat,UInt8.ofNat (y%256).toNat]else aB x++aB y
noncomputable def eP(x y:Int):Int:=if sm x y then 2 else 3
theorem FN:oW (n+2) 898 none [(eN g x y).av]=some (.val (.tup [.int (eP x y),.bytes (iC x y)]),none):=by
 exists Jv,Gr,[.val (eN g x y).av,.no,.no]
 unfold eP iC
 have e3:Builtin.bitOr 2 1=3:=by decide+kernel
 by_cases h:sm x y
 ·rw[if_pos h,if_pos h]
  obtain⟨h0,h1,h2,h3⟩:=h
  simp![]
 ·rw[if_neg h,if_neg h]
  unfold sm at h
  by_cases h0: -128≤x
  ·by_cases h1:x<128
   ·by_cases h2: -128≤y
    ·simp![gO,e3]
    ·simp![gO,e3]
   ·simp![gO,e3]
  ·simp![gO,e3]
theorem ajU:oW (n+1) 891 none [oD]=some (.val (.tup [.int 0,.bytes []]),none):=oR (by kernel_rfl)
def iV(o x0 y0 x1 y1:Int):List UInt8:=aB (-1)++pE [0,0,1,1]++(aB (Builtin.bitOr (eP x0 y0) 32)++aB 1++iC x0 y0)++(aB (eP x1 y1)++aB o++iC x1 y1)
theorem wy(x y):(iC x y).length≤4:=by
 unfold iC;split
 ·simp
 ·simp[fG]
theorem or0(x y):Builtin.bitOr (eP x y) 0=eP x y:=by unfold eP;split<;>decide+kernel
theorem WV:oW (n+3) 906 none [.lst [(eN 1 x0 y0).av,(eN o x1 y1).av],.tup [.int 0,.int 0,.int 1,.int 1]]=some (.val (.bytes (iV o x0 y0 x1 y1)),none):=by
 exists Jz,Gx,[.val (.lst [(eN 1 x0 y0).av,(eN o x1 y1).av]),.val (.tup [.int 0,.int 0,.int 1,.int 1]),.val (.bytes []),.no,.no,.no,.no,.no,.no,.no]
 have r2:ij 0 2 1=[.int 0,.int 1]:=by kernel_rfl
 have c0:∀a b:AV,decide ([a,b]=[])=false:=fun a b=>by simp
 have cb:decide (([]:List UInt8)≠[])=false:=rfl
 have s0:∀a b:AV,bt (.lst [a,b]) (.int 0)=some a:=fun a b=>rfl
 have s1:∀a b:AV,bt (.lst [a,b]) (.int 1)=some b:=fun a b=>rfl
 have a0:=wy x0 y0
 have a1:=wy x1 y1
 have p4:(pE [0,0,1,1]).length=8:=rfl
 have g0:=FN (n:=n) (g:=1) (x:=x0) (y:=y0)
 have g1:=FN (n:=n) (g:=o) (x:=x1) (y:=y1)
 rw[eQ]at g0 g1
 have ln:(([AV.inst 770 [(cO,.int 1),(fA,.int x0),(gu,.int y0),(iS,.bool true),(gQ,oD)],AV.inst 770 [(cO,.int o),(fA,.int x1),(gu,.int y1),(iS,.bool true),(gQ,oD)]]:List AV).length:Int)=2:=rfl
 simp![c0,gO,Hp,show jI none=0 from rfl]
 simp only[Int.zero_add,Int.reduceAdd,Int.cast_ofNat_Int,natCast_add,Int.natCast_one,r2]
 simp![xx,xy,nZ,s0,s1,g0,g1,ajU,or0,cb,gO,Int.zero_add,Int.reduceAdd]
 simp only[iV,append_assoc,append_nil,nil_append]
theorem OQ(h0: -128≤x)(h1:x<128):oW (n+1) 788 none [.int (x%256)]=some (.val (.int x),none):=by
 exists J6,GX,[.val (.int (x%256))]
 by_cases h:x%256≥128
 ·have e:x%256-256=x:=by lia
  simp![e]
 ·have e:x%256=x:=by lia
  simp![e]
structure wi (f x y:Int):Prop where
 lo:0≤f
 hi:f<65536
 mv:decide (Builtin.bitAnd f 2≠0)=true
 wd:decide (Builtin.bitAnd f 1≠0)=decide (¬sm x y)
 s8:decide (Builtin.bitAnd f 8≠0)=false
 s64:decide (Builtin.bitAnd f 64≠0)=false
 ajL:decide (Builtin.bitAnd f 128≠0)=false
theorem Ss(x y):wi (eP x y) x y∧decide (Builtin.bitAnd (eP x y) 32≠0)=false∧decide (Builtin.bitAnd (eP x y) 256≠0)=false:=by
 unfold eP
 by_cases h:sm x y
 ·rw[if_pos h];exact⟨⟨by lia,by lia,by decide+kernel,by simp[h];decide+kernel,by decide+kernel,by decide+kernel,by decide+kernel⟩,by decide+kernel,by decide+kernel⟩
 ·rw[if_neg h];exact⟨⟨by lia,by lia,by decide+kernel,by simp[h];decide+kernel,by decide+kernel,by decide+kernel,by decide+kernel⟩,by decide+kernel,by decide+kernel⟩
theorem Su(x y):wi (Builtin.bitOr (eP x y) 32) x y∧decide (Builtin.bitAnd (Builtin.bitOr (eP x y) 32) 32≠0)=true:=by
 unfold eP
 by_cases h:sm x y
 ·rw[if_pos h];exact⟨⟨by decide+kernel,by decide+kernel,by decide+kernel,by simp[h];decide+kernel,by decide+kernel,by decide+kernel,by decide+kernel⟩,by decide+kernel⟩
 ·rw[if_neg h];exact⟨⟨by decide+kernel,by decide+kernel,by decide+kernel,by simp[h];decide+kernel,by decide+kernel,by decide+kernel,by decide+kernel⟩,by decide+kernel⟩
theorem Oz(h:wi f x y):oW (n+1) 781 (some (.inst 714 c)) [.int f]=some (.val oD,some (.inst 714 c)):=by
 exists J0,GR,[.own (.inst 714 c),.val (.int f),.no,.no,.no]
 simp![h.s8,h.s64,h.ajL]
theorem FK(h:wi f x y)(hx: -32768≤x∧x<32768)(hy: -32768≤y∧y<32768)(hd:b.drop i=iC x y++r):
  oW (n+4) 795 (some (OC b i)) [.int f]=some (.val (.tup [.int x,.int y]),some (OC b (i+(iC x y).length))):=by
 exists JR,GI,[.own (OC b i),.val (.int f),.no,.no,.no]
 unfold iC at hd ⊢
 obtain⟨x0,x1⟩:=hx
 obtain⟨y0,y1⟩:=hy
 by_cases hs:sm x y
 ·rw[if_pos hs]at hd ⊢
  have hw:decide (Builtin.bitAnd f 1≠0)=false:=by rw[h.wd];simp[hs]
  obtain⟨s0,s1,s2,s3⟩:=hs
  have h1:b.drop i=UInt8.ofNat (x%256).toNat::(UInt8.ofNat (y%256).toNat::r):=hd
  have h2:b.drop (i+1)=UInt8.ofNat (y%256).toNat::r:=ew (c:=[UInt8.ofNat (x%256).toNat]) h1
  have v1:((UInt8.ofNat (x%256).toNat).toNat:Int)=x%256:=mO (by lia) (by lia)
  have v2:((UInt8.ofNat (y%256).toNat).toNat:Int)=y%256:=mO (by lia) (by lia)
  have k1:=OQ (n:=n+2) s0 s1
  have k2:=OQ (n:=n+2) s2 s3
  simp![h.mv,hw,oX h1,oX h2,v1,v2,k1,k2]
 ·rw[if_neg hs]at hd ⊢
  have hw:decide (Builtin.bitAnd f 1≠0)=true:=by rw[h.wd];simp[hs]
  rw[append_assoc]at hd
  have h2:=ew hd
  rw[fG]at h2
  simp![h.mv,hw,vK hd x0 x1,vK h2 y0 y1,length_append,fG,add_assoc]
theorem ai8(ho:0≤o∧o<65536)(C7: -32768≤x0∧x0<32768)(C9: -32768≤y0∧y0<32768)(ur: -32768≤x1∧x1<32768)(uw: -32768≤y1∧y1<32768)
  (hd:b.drop i=aB (Builtin.bitOr (eP x0 y0) 32)++(aB 1++(iC x0 y0++(aB (eP x1 y1)++(aB o++(iC x1 y1++r)))))):
  ∃c,oW (n+5) 802 (some (OC b i)) []=some (.val (.tup [.lst [(eN 1 x0 y0).av,(eN o x1 y1).av],.bytes []]),some c):=by
 obtain⟨f0,Y9⟩:=Su x0 y0
 obtain⟨f1,Zb,Za⟩:=Ss x1 y1
 have h1:=ew hd
 have h2:=ew h1
 have h3:=ew h2
 have h4:=ew h3
 have h5:=ew h4
 simp only[fG]at h1 h2 h3 h4 h5
 have e0:Builtin.bitOr (eP x0 y0) 32%65536=Builtin.bitOr (eP x0 y0) 32:=emod_eq_of_lt f0.lo f0.hi
 have e1:eP x1 y1%65536=eP x1 y1:=emod_eq_of_lt f1.lo f1.hi
 have eo:o%65536=o:=emod_eq_of_lt ho.1 ho.2
 have XZ:(1:Int)%65536=1:=by decide
 have w0:=sE (n:=n+2) hd
 have w1:=sE (n:=n+2) h1
 have w3:=sE (n:=n+2) h3
 have w4:=sE (n:=n+2) h4
 rw[e0]at w0;rw[XZ]at w1;rw[e1]at w3;rw[eo]at w4
 have a0:=FK (n:=n) f0 C7 C9 h2
 have a1:=FK (n:=n) f1 ur uw h5
 have S3:decide (Builtin.bitAnd 32 32≠0)=true:=by decide+kernel
 refine⟨OC b (i+2+2+(iC x0 y0).length+2+2+(iC x1 y1).length),?_⟩
 exists JZ,GQ,[.own (OC b i),.no,.no,.no,.no,.no,.no]
 simp![m6,AR,uz,yz,yw,yv,nZ,S3,w0,w1,a0,f0.mv,Y9,Oz f0,ahh,dR,w3,w4,a1,f1.mv,Zb,Za,Oz f1]
theorem aa0(h:gs[i]? =some g):∃r,(go gs gs.length).drop (go gs i).length=FL g++r:=by
 have:go gs gs.length=go gs i++(FL g++((gs.drop (i+1)).map FL).flatten):=by
  rw[←append_assoc,←ua h]
  unfold go
  rw[take_of_length_le (le_refl _),←flatten_append,←map_append,take_append_drop]
 rw[this,drop_left' rfl]
 exact⟨_,rfl⟩
abbrev iW(gs:List (List UInt8)):AC:=.inst 849 [(aH,.bytes (go gs gs.length)),(fE,.lst (eW gs (gs.length+1)))]
theorem KL:oW (n+2) 849 none [a,b]=some (.fresh (.inst 849 [(aH,a),(fE,b)]),none):=oR (by kernel_rfl)
theorem NL(h:i<k):bt (.lst (eW gs k)) (.int (i:Nat))=some (.int (go gs i).length):=by
 refine kB (by lia) ?_
 rw[toNat_natCast,eW,getElem?_map,List.getElem?_range h];rfl
theorem KA:oW (n+1) 823 none [(iW gs).av]=some (.val (.int gs.length),none):=by
 exists Jf,Gd,[.val (iW gs).av]
 have e:(((gs.length+1:Nat)):Int)-1=gs.length:=by lia
 simp![rI,e]
theorem Cp{n gs}{i:Nat}(h:gs[i]? =some g):oW (n+2) 830 none [(iW gs).av,.int i]=some (.val (.bytes (FL g)),none):=by
 have hi:=(List.getElem?_eq_some_iff.mp h).1
 obtain⟨r,hr⟩:=aa0 h
 have h1:=xK gs i (i+1) (by lia)
 have h2:=xK gs (i+1) gs.length (by lia)
 have h3:=congrArg List.length (ua h)
 rw[length_append]at h3
 have s1:=NL (gs:=gs) (i:=i) (k:=gs.length+1) (by lia)
 have s2:=NL (gs:=gs) (i:=i+1) (k:=gs.length+1) (by lia)
 rw[show((i+1:Nat):Int)=(i:Int)+1 from rfl]at s2
 have e1:(((go gs (i+1)).length:Int)-((go gs i).length:Int)).toNat=(FL g).length:=by rw[h3,natCast_add,Int.add_comm,add_sub_cancel];rfl
 have e2:((go gs gs.length).drop (go gs i).length).take (FL g).length=FL g:=AJ hr
 have gc:=KA (n:=n) (gs:=gs)
 rw[eQ]at gc
 exists Jg,Ge,[.val (iW gs).av,.val (.int i)]
 simp![gc,s1,s2,uK,toNat_natCast,e1,e2]
theorem aha{n gs}{i:Nat}(h:gs[i]? =some []):oW (n+6) 846 none [(iW gs).av,.int i,.tup ab]=some (.fresh (eg [] []),none):=by
 have g:=Cp (n:=n+3) h
 rw[eQ,show FL []=[]from rfl]at g
 exists tP,wB,[.val (iW gs).av,.val (.int i),.val (.tup ab),.no,.no,.no,.no,.no,.no,.no]
 have c0:decide (([]:List UInt8)=[])=true:=rfl
 simp![g,DT,c0,NB]
 rfl
def Simp(g:List UInt8)(cs:List (List Pt))(k:Nat):Prop:=∃bx bs cR,bx.length=4∧Enc (j4 0 0 cs.flatten) bs cR∧bs.length≤3*cs.flatten.length∧g=SO cs k bx bs
structure Good (cs:List (List Pt)) (k:Nat):Prop where
 c:∀c∈cs,c≠[]
 ne:cs≠[]
 l:cs.flatten.length≤100
 n:cs.length≤50
 k:k≤50
 b:sH cs.flatten
theorem D2{n gs}{i:Nat}(h:gs[i]? =some g)(hs:Simp g cs k)(hg:Good cs k)(CH:bh .fQ (.int i) (.tup ab)=some false)(ub:ab.length<8):
  oW (n+6) 846 none [(iW gs).av,.int i,.tup ab]=some (.fresh (eg cs (replicate k 0)),none):=by
 obtain⟨bx,bs,cR,Cx,he,xP,rfl⟩:=hs
 have g0:=Cp (n:=n+3) h
 rw[eQ]at g0
 have j6:(pE bx).length=8:=by rw[pA,Cx]
 have hlen:(SO cs k bx bs).length=2+8+(pE (cM (-1) cs)).length+(2+k)+bs.length+(dJ 0 (cs.flatten.map (·.1))).length+(dJ 0 (cs.flatten.map (·.2.1))).length:=by
  simp only[SO,length_append,fG,j6,length_replicate]
 have j7:=ly (SO cs k bx bs)
 have h1:(FL (SO cs k bx bs)).drop 0=aB cs.length++(pE bx++(pE (cM (-1) cs)++(aB k++(replicate k 0++(bs++(dJ 0 (cs.flatten.map (·.1))++(dJ 0 (cs.flatten.map (·.2.1))++replicate ((4-(SO cs k bx bs).length%4)%4) 0))))))):=by
  rw[drop_zero,FL]
  conv=>lhs;arg 1;rw[SO]
  simp only[append_assoc]
 generalize hW:FL (SO cs k bx bs)=W at*
 have hgn:=hg.n
 have an2:=List.length_pos_iff.mpr hg.ne
 have h2:=ew h1
 rw[fG]at h2
 have h3:=ew h2
 rw[j6]at h3
 have sg:=vK (n:=n+2) h1 (by lia) (by lia)
 have pt:=DZ (n:=n+3) h2 (by rw[j6];lia) (k:=8) (by rw[j6];rfl)
 rw[j6]at pt
 have CP:decide (W=[])=false:=by rw[decide_eq_false];intro e;rw[e]at j7;simp at j7;lia
 obtain⟨c,rs⟩:=ai9 (n:=n) hg.c hg.ne (by have:=hg.l;lia) (by have:=hg.n;lia) (by have:=hg.k;lia) hg.b he (Z6 he.rel) h3 (by lia)
 exists tP,wB,[.val (iW gs).av,.val (.int i),.val (.tup ab),.no,.no,.no,.no,.no,.no,.no]
 simp![g0,DT,CP,CH,sg,pt,rs]
def oG(x:Int):Prop:= -300≤x∧x≤300
theorem xu:∀(cs:List (List Pt)) (c:List Pt),c∈cs→c.length≤cs.flatten.length
 |d::cs,c,h=>by
  rw[flatten_cons,length_append]
  rcases mem_cons.mp h with rfl|h
  ·lia
  ·have:=xu cs c h;lia
theorem Lu(h:a≠b):bh .fQ (.int a) (.tup [.int b])=some false:=by
 show some ([b].contains a)=_
 simp[h]
theorem ag8{n gs}{i o:Nat}{g1 g2 nx k1 qA k2}(h:gs[i]? =some (iV (o:Int) x0 y0 x1 y1))(h1:gs[1]? =some g1)(h2:gs[o]? =some g2)
  (s1:Simp g1 nx k1) (s2:Simp g2 qA k2) (q1:Good nx k1) (q2:Good qA k2) (hi1:i≠1) (hio:i≠o) (ho:o≤10)
  (C7:oG x0) (C9:oG y0) (ur:oG x1) (uw:oG y1):
  oW (n+7) 846 none [(iW gs).av,.int i,.tup []]=some (.fresh (eg (dN x0 y0 nx++dN x1 y1 qA) []),none):=by
 have g0:=Cp (n:=n+4) h
 unfold oG at C7 C9 ur uw
 have e1:bh .fQ (.int (1:Nat)) (.tup [.int (i:Nat)])=some false:=Lu (by omega)
 have e2:bh .fQ (.int (o:Nat)) (.tup [.int (i:Nat)])=some false:=Lu (by omega)
 have r1:=D2 (n:=n) h1 s1 q1 e1 (by simp)
 have r2:=D2 (n:=n) h2 s2 q2 e2 (by simp)
 have p1:=NI (n:=n+4) (g:=1) (x:=x0) (y:=y0) (o:=.lst []) (cs:=nx) (by have:=q1.n;lia) (fun c hc=>by have:=xu _ _ hc;have:=q1.l;lia)
 have p2:=NI (n:=n+4) (g:=(o:Int)) (x:=x1) (y:=y1) (o:=.lst ((dN x0 y0 nx).map aY)) (cs:=qA) (by have:=q2.n;lia) (fun c hc=>by have:=xu _ _ hc;have:=q2.l;lia)
 rw[eQ]at r1 r2 p1 p2 g0
 have j7:=ly (iV (o:Int) x0 y0 x1 y1)
 have hl:10≤(iV (o:Int) x0 y0 x1 y1).length:=by simp only[iV,length_append,fG,pA,length_cons,length_nil];lia
 have h3:(FL (iV (o:Int) x0 y0 x1 y1)).drop 0=aB (-1)++(pE [0,0,1,1]++(aB (Builtin.bitOr (eP x0 y0) 32)++(aB 1++(iC x0 y0++(aB (eP x1 y1)++(aB o++(iC x1 y1++replicate ((4-(iV (o:Int) x0 y0 x1 y1).length%4)%4) 0))))))):=by
  rw[drop_zero,FL]
  conv=>lhs;arg 1;rw[iV]
  simp only[append_assoc]
 generalize hW:FL (iV (o:Int) x0 y0 x1 y1)=W at*
 have h4:=ew h3
 rw[fG]at h4
 have j6:(pE [0,0,1,1]).length=8:=rfl
 have h5:=ew h4
 rw[j6]at h5
 have sg:=vK (n:=n+3) h3 (by lia) (by lia)
 have pt:=DZ (n:=n+4) h4 (by rw[j6];lia) (k:=8) (by rw[j6];rfl)
 rw[j6]at pt
 have CP:decide (W=[])=false:=by rw[decide_eq_false];intro e;rw[e]at j7;simp at j7;lia
 obtain⟨c,rp⟩:=ai8 (n:=n+1) (o:=(o:Int)) ⟨by lia,by lia⟩ ⟨by lia,by lia⟩ ⟨by lia,by lia⟩ ⟨by lia,by lia⟩ ⟨by lia,by lia⟩ h5
 rw[eQ,eQ]at rp
 have CH:bh .fQ (.int (i:Nat)) (.tup [])=some false:=rfl
 have tp:∀a:AV,fZ .add (.tup []) (.tup [a])=some (.tup [a]):=fun a=>rfl
 rw[Int.natCast_one]at r1
 have m1:(dN x0 y0 nx).length=nx.length:=by simp[dN]
 have m2:(dN x1 y1 qA).length=qA.length:=by simp[dN]
 have:=q1.n
 have:=q2.n
 exists tP,wB,[.val (iW gs).av,.val (.int i),.val (.tup []),.no,.no,.no,.no,.no,.no,.no]
 simp![g0,DT,CP,CH,sg,pt,rp,xx,xy,nZ,tp,r1,r2,p1,p2,DW,NB]
 rw[←map_append]
 rfl
theorem sV(a):aW .abs [.int a]=some (.int (if a<0 then -a else a)):=rfl
theorem Vx:oW (n+1) 549 none [.int t,.int 1]=some (.val (.int 1),none):=by
 exists BY,Bg,[.val (.int t),.val (.int 1),.no,.no]
 have e:(if t<0 then -t else t)%1=0:=by lia
 simp![sV,m6,AR,uz,yz,yw,yv,nZ,e]
theorem H9:oW (n+1) 549 none [.int t,.int 2]=some (.val (.int (if t%2=0 then 2 else 1)),none):=by
 exists BY,Bg,[.val (.int t),.val (.int 2),.no,.no]
 by_cases h:t%2=0
 ·have e:(if t<0 then -t else t)%2=0:=by split<;>lia
  simp![sV,m6,AR,uz,yz,yw,yv,nZ,e,if_pos h]
 ·have e:(if t<0 then -t else t)%2=1:=by split<;>lia
  simp![sV,m6,AR,uz,yz,yw,yv,nZ,e,if_neg h,show(2:Int)%1=0 from rfl]
noncomputable def xA(t:Int):Int×Int:=if t%2=0 then(t/2,1)else(t,2)
noncomputable def xB(p:Int×Int):AV:=.tup [.int p.1,.int p.2]
theorem aaB:oW (n+2) 557 none [.int t]=some (.val (xB (t,1)),none):=by
 exists BZ,Bh,[.val (.int t),.val (.int 1),.no]
 simp![Vx,ediv_one]
 rfl
theorem aaC:oW (n+2) 557 none [.int t,.int 2]=some (.val (xB (xA t)),none):=by
 exists BZ,Bh,[.val (.int t),.val (.int 2),.no]
 unfold xA
 by_cases h:t%2=0
 ·rw[if_pos h]
  simp![H9,if_pos h,show(2:Int)/2=1 from rfl]
  rfl
 ·rw[if_neg h]
  simp![H9,if_neg h,ediv_one]
  rfl
noncomputable abbrev Sp:=(Int×Int)×(Int×Int)
def bp(s:Sp):AV:=.tup [xB s.1,xB s.2]
noncomputable def iu(p:Pt):Sp:=((p.1,1),(p.2.1,1))
def mid(p q:Pt):Sp:=(xA (p.1+q.1),xA (p.2.1+q.2.1))
theorem NN(p:Pt):bt (bo p) (.int 0)=some (.int p.1):=rfl
theorem NO(p:Pt):bt (bo p) (.int 1)=some (.int p.2.1):=rfl
theorem pC(p:Pt):bt (bo p) (.int 2)=some (.bool p.2.2):=rfl
theorem sj:oW (n+3) 634 none [bo p]=some (.val (bp (iu p)),none):=by
 exists J8,GY,[.val (bo p)]
 simp![NN,NO,aaB]
 rfl
theorem Nd:oW (n+3) 641 none [bo p,bo q]=some (.val (bp (mid p q)),none):=by
 exists JI,GA,[.val (bo p),.val (bo q)]
 simp![NN,NO,aaC]
 rfl
theorem yQ:fU k st (aY c)=k (.fresh (.lst (c.map bo))) st:=rfl
def Q4(c:List Pt)(s:Sp)(ps:List Pt):Prop:=(∀p,p∈ps↔p∈c)∧ps.length=c.length∧∀l p,ps=l++[p]→p.2.2=true→s=iu p
theorem Ub(hc:c≠[])(hl:c.length≤1000):∃s ps,Q4 c s ps∧oW (n+4) 648 none [aY c]=some (.val (.tup [bp s,.lst (ps.map bo)]),none):=by
 rw[fM (d:=BW) (st:=[.val (aY c)]) rfl rfl rfl]
 dsimp only[BW,Gu]
 match c,hc with
 |p::r,_=>
  have h0:bt (aY (p::r)) (.int 0)=some (bo p):=kB (by lia) rfl
  obtain⟨l,q,e⟩:∃l q,p::r=l++[q]:=⟨(p::r).dropLast,(p::r).getLast (by simp),(List.dropLast_concat_getLast _).symm⟩
  have h1:bt (aY (p::r)) (.int (-1))=some (bo q):=by rw[e,aY,map_append];exact sq
  have hlen:((p::r).map bo).length=r.length+1:=by simp
  have C0:lY (aY (p::r)) (some 1) none=some (.lst (r.map bo)):=by
   rw[aY,Ez,D5 _ (by lia) (by rw[hlen];lia)];rfl
  have hp2:lY (aY (p::r)) none (some 1)=some (.lst [bo p]):=by
   rw[aY,Ez,D7 _ (by lia) (by rw[hlen];lia)];rfl
  have i9:aW .list [aY (p::r)]=some (aY (p::r)):=rfl
  simp only[length_cons]at hl
  by_cases mE:p.2.2=true
  ·refine⟨iu p,r++[p],⟨fun x=>by simp[or_comm],by simp,fun l' q' e' _=>by rw[(append_inj' e' rfl).2|>head_eq_of_cons_eq]⟩,?_⟩
   simp![h0,pC,mE,sj,C0,hp2,map_append]
  ·have Ln:p.2.2=false:=by simpa using mE
   by_cases hq:q.2.2=true
   ·refine⟨iu q,p::r,⟨fun x=>Iff.rfl,rfl,fun l' q' e' _=>by rw[e]at e';rw[(append_inj' e' rfl).2|>head_eq_of_cons_eq]⟩,?_⟩
    simp![h0,h1,pC,Ln,hq,sj,i9,yQ]
   ·have hq':q.2.2=false:=by simpa using hq
    refine⟨mid q p,p::r,⟨fun x=>Iff.rfl,rfl,fun l' q' e' h=>by rw[e]at e';rw[←(append_inj' e' rfl).2|>head_eq_of_cons_eq]at h;exact absurd h hq⟩,?_⟩
    simp![h0,h1,pC,Ln,hq',Nd,i9,yQ]
inductive Sg where|line (s:Sp)|r7 (c s:Sp)
noncomputable def Sg.e:Sg→Sp
 |.line s=>s
 |.r7 _ s=>s
def Sg.v:Sg→AV
 |.line s=>.tup [.str Eh,bp s]
 |.r7 c s=>.tup [.str vq,bp c,bp s]
def fT(s:Sp):AV:=.tup [.str mT,bp s]
def nu:AV:=.tup [.str oi]
def vD(d:Sp×List Sg):List AV:=fT d.1::d.2.map Sg.v++[nu]
def oN(c:List Pt)(d:Sp×List Sg):Prop:=(∃E,d.2.map Sg.e=E++[d.1])∧(∀p∈c,p.2.2=true→iu p∈d.2.map Sg.e)∧d.2.length≤c.length+1
def o3:Option Pt→AV
 |none=>.none
 |some p=>bo p
def lX(ctl:Option Pt)(p:Pt):List Sg:=bif p.2.2 then [ctl.elim (.line (iu p)) fun q=>.r7 (iu q) (iu p)]else ctl.elim [] fun q=>[.r7 (iu q) (mid q p)]
noncomputable def mY(p:Pt):Option Pt:=bif p.2.2 then none else some p
noncomputable def jM(ctl:Option Pt):List Pt→List Sg
 |[]=>[]
 |p::r=>lX ctl p++jM (mY p) r
theorem OV(ctl)(p)(r):jM ctl (p::r)=lX ctl p++jM (mY p) r:=rfl
noncomputable def mM(ctl:Option Pt):List Pt→Option Pt
 |[]=>ctl
 |p::r=>mM (mY p) r
theorem O7(h:p.2.2=true):∃g:Sg,lX ctl p=[g]∧g.e=iu p:=by
 unfold lX
 rw[h]
 cases ctl with
 |none=>exact⟨_,rfl,rfl⟩
 |some q=>exact⟨_,rfl,rfl⟩
theorem akT:(lX ctl p).length≤1:=by
 unfold lX
 cases p.2.2 with
 |true=>exact le_refl _
 |false=>
  cases ctl with
  |none=>exact zero_le _
  |some q=>exact le_refl _
theorem akF(hq:q∈ps)(h:q.2.2=true)(ctl):iu q∈(jM ctl ps).map Sg.e:=by
 induction ps generalizing ctl with
 |nil=>cases hq
 |cons p r ih=>
  rw[OV,map_append]
  exact(mem_cons.mp hq).elim (fun e=>mem_append_left _ ((O7 (ctl:=ctl) (e▸h)).elim fun g k=>by rw[k.1,e,←k.2];exact .head _)) fun hq=>mem_append_right _ (ih hq _)
theorem akE(ctl):(jM ctl ps).length≤ps.length:=by
 induction ps generalizing ctl with
 |nil=>exact le_refl _
 |cons p r ih=>rw[OV,length_append,length_cons,add_comm];exact add_le_add (ih _) akT
theorem akD(ctl):mM ctl (l++[p])=mY p∧∃c,jM ctl (l++[p])=jM ctl l++lX c p:=by
 induction l generalizing ctl with
 |nil=>exact⟨rfl,ctl,append_nil _⟩
 |cons q l ih=>exact⟨(ih _).1,(ih (mY q)).2.imp fun c k=>(congrArg (lX ctl q++ ·) k).trans (append_assoc ..).symm⟩
def tS(s:Sp)(ctl:Option Pt):List Sg:=ctl.elim [] fun p=>[.r7 (iu p) s]
theorem akC(h0:ps≠[])(h:∀l p,ps=l++[p]→p.2.2=true→s=iu p):∃E,(jM none ps++tS s (mM none ps)).map Sg.e=E++[s]:=by
 have e:=(List.dropLast_concat_getLast h0).symm
 have k:=akD (l:=ps.dropLast) (p:=ps.getLast h0) none
 rw[←e]at k
 cases ho:(ps.getLast h0).2.2 with
 |false=>
  rw[k.1,mY,ho,map_append]
  exact⟨_,rfl⟩
 |true=>
  refine k.2.elim fun c k2=>(O7 (ctl:=c) ho).elim fun g k3=>⟨(jM none ps.dropLast).map Sg.e,?_⟩
  rw[k.1,mY,ho,k2,k3.1,h _ _ e ho,←k3.2]
  show(jM none ps.dropLast++[g]++[]).map Sg.e=_
  rw[append_nil,map_append];rfl
def tG(c:List Pt)(s:Sp)(ps:List Pt)(L:List AV)(ctl:Option Pt)(s5:Slot):St:=[.val (aY c),.val (bp s),.val (.lst (ps.map bo)),.own (.lst L),.val (o3 ctl),s5]
theorem VB:bh .hM (bo p) .none=some false:=rfl
theorem Ia:bh .hN (bo p) .none=some true:=rfl
theorem VC:bh .hM .none .none=some true:=rfl
theorem Ib:bh .hN .none .none=some false:=rfl
theorem Xd(hl:L.length≤10000):
  eG (.one 5) (bj ag.T (oW (n+4)) 1000 (cj wG 3)) (bo p) (tG c s ps L ctl s5)=some (.next,tG c s ps (L++(lX ctl p).map Sg.v) (mY p) (.val (bo p))):=by
 unfold tG lX mY
 dsimp only[cj,fv,dc,dq,dr,wG]
 cases mE:p.2.2 with
 |true=>
  cases ctl with
  |none=>
   dsimp only[o3]
   simp![pC,mE,VC,sj,dR]
   rfl
  |some q=>
   dsimp only[o3]
   simp![pC,mE,VB,sj,dR]
   rfl
 |false=>
  cases ctl with
  |none=>
   dsimp only[o3]
   simp![pC,mE,Ib]
   exact congrArg (fun x=>some (br.next,[_,_,_,Slot.own (.lst x),_,_])) (append_nil L).symm
  |some q=>
   dsimp only[o3]
   simp![pC,mE,Ia,sj,Nd,dR]
   rfl
theorem Xc(hc:c≠[])(hl:c.length≤1000):∃d,oN c d∧oW (n+5) 655 none [aY c]=some (.fresh (.lst (vD d)),none):=by
 refine(Ub (n:=n) hc hl).elim fun s h=>h.elim fun ps h=> ?_
 have hb:=h.1
 have r0:=h.2
 have hlen:=hb.2.1
 have h0:ps≠[]:=fun e=>hc (List.eq_nil_of_length_eq_zero (by rw[←hlen,e];rfl))
 have hsl:=akE (ps:=ps) none
 have j7:(tS s (mM none ps)).length≤1:=by
  cases mM none ps with
  |none=>exact zero_le _
  |some p=>exact le_refl _
 refine⟨(s,jM none ps++tS s (mM none ps)),⟨akC h0 hb.2.2,fun p hp ho=> ?_,?_⟩,?_⟩
 ·rw[map_append]
  exact mem_append_left _ (akF ((hb.1 p).mpr hp) ho none)
 ·rw[length_append];omega
 exists JA,wG,[.val (aY c),.no,.no,.no,.no,.no]
 simp![r0]
 refine Ku bo (tG c s ps) (fun us L ctl _=>L++(jM ctl us).map Sg.v=fT s::(jM none ps).map Sg.v∧mM ctl us=mM none ps) ps [fT s] none .no ⟨rfl,rfl⟩ (fun p us L ctl s5 h=> ?_) fun L ctl s5 h=> ?_
 ·have hw:=congrArg List.length h.1
  rw[length_append,length_cons,length_map,length_map]at hw
  refine⟨_,_,_,Xd (n:=n) (by omega),?_,h.2⟩
  rw[append_assoc,←map_append]
  exact h.1
 have hw:L++[]=_:=h.1
 have he:ctl=_:=h.2
 rw[append_nil]at hw
 subst hw
 unfold vD tG
 rw[he]
 cases mM none ps with
 |none=>
  dsimp only[o3]
  simp![Ib,dR,length_map]
  rw[tS,Option.elim_none,append_nil];rfl
 |some p=>
  dsimp only[o3]
  simp![Ia,sj,dR,length_map]
  rw[tS,Option.elim_some,map_append];rfl
inductive Row where|mv (s:Sp)|sg (g:Sg)|cl
def Row.v:Row→AV
 |.mv s=>fT s
 |.sg g=>g.v
 |.cl=>nu
noncomputable def kA(d:Sp×List Sg):List Row:=.mv d.1::d.2.map .sg++[.cl]
theorem ajx(d):vD d=(kA d).map Row.v:=by simp[vD,kA,Row.v,Function.comp_def]
def allR(ds:List (Sp×List Sg)):List Row:=(ds.map kA).flatten
theorem Sk(d ds):allR (d::ds)=.mv d.1::(d.2.map .sg++.cl::allR ds):=by simp[allR,kA]
noncomputable def eH:List Row→List Sp
 |[]=>[]
 |.mv s::r=>s::eH r
 |.sg _::r=>eH r
 |.cl::r=>eH r
theorem agb(s)(r):eH (.mv s::r)=s::eH r:=rfl
theorem agc(r):eH (.cl::r)=eH r:=rfl
theorem agd(L:List Sg)(r):eH (L.map .sg++r)=eH r:=by
 induction L with
 |nil=>rfl
 |cons g L ih=>exact ih
theorem DK:∀ds,eH (allR ds)=ds.map (·.1)
 |[]=>rfl
 |d::ds=>by rw[Sk,agb,agd,agc,DK ds];rfl
def sf(C:AV)(b:List UInt8)(ds:List (Sp×List Sg))(s:Slot):St:=[.val (.inst 599 [(cD,C),(dz,.bytes b)]),.val (.lst ((allR ds).map Row.v)),s]
def Ex(n:Nat):AV→St→Option (br×St):=eG (.one 2) (bj ag.T (oW (n+5)) 1000 (cj wM 1))
theorem FJ(ds:List (Sp×List Sg))(d:Sp×List Sg):allR (ds++[d])=allR ds++kA d:=by simp[allR]
theorem OM(d:Sp×List Sg):(kA d).length=d.2.length+2:=by simp[kA]
theorem akV{n C b ds s}{c:List Pt}{d:Sp×List Sg}(h2:1<(c.length:Int))(hl:(allR ds).length≤5000)(hd:d.2.length≤1000)(r:oW (n+5) 655 none [aY c]=some (.fresh (.lst (vD d)),none)):Ex n (aY c) (sf C b ds s)=some (.next,sf C b (ds++[d]) (.val (aY c))):=by
 have i9:aW .list [aY c]=some (aY c):=rfl
 have hlen:aW .len [aY c]=some (.int c.length):=by rw[aY,rd,length_map]
 have Cw:AV.lst (c.map bo)=aY c:=rfl
 have hr:(kA d).length≤1002:=OM d▸add_le_add_right hd 2
 rw[ajx]at r
 dsimp only[Ex,sf,cj,fv,dc,dq,dr,wM]
 rw[FJ,map_append]
 simp![i9,hlen,yQ,Cw,r]
theorem cB(c:List Pt)(cs:List (List Pt)):(c::cs).flatten.length+3*(c::cs).length=c.length+3+(cs.flatten.length+3*cs.length):=by
 rw[flatten_cons,length_append,length_cons,mul_succ,add_comm (3*cs.length) 3,Nat.add_add_add_comm]
theorem akU{n C b}:∀(cs:List (List Pt)) (qD:List (Sp×List Sg)) (s:Slot),(∀c∈cs,2≤c.length)→cs.flatten.length≤500→(allR qD).length+(cs.flatten.length+3*cs.length)≤5000→
  ∃ds s',A2 oN cs ds∧(allR ds).length≤cs.flatten.length+3*cs.length∧cG (Ex n) (cs.map aY) (sf C b qD s)=some (.next,sf C b (qD++ds) s'):=by
 intro cs
 induction cs with
 |nil=>exact fun qD s _ _ _=>⟨[],s,.nil,zero_le _,by rw[append_nil];rfl⟩
 |cons c cs ih=>
  intro qD s h hf hl
  rw[cB]at hl
  rw[flatten_cons,length_append]at hf
  have KZ:=h c (.head _)
  refine(Xc (n:=n) (c:=c) (fun e=>absurd (e▸KZ) (by decide)) (le_trans (le_trans (le_add_right ..) hf) (by decide))).elim fun d z=> ?_
  have hd:=z.1.2.2
  have hr:(kA d).length≤c.length+3:=OM d▸add_le_add_right hd 2
  refine(ih (qD++[d]) (.val (aY c)) (fun x hx=>h x (.tail _ hx)) (le_trans (le_add_left ..) hf) (by rw[FJ,length_append,add_assoc];exact le_trans (add_le_add_left (add_le_add_right hr _) _) hl)).elim fun ds y=>y.elim fun s' y=>⟨d::ds,s',.cons z.1 y.1,?_,?_⟩
  ·show(kA d++allR ds).length≤_
   rw[length_append,cB];exact add_le_add hr y.2.1
  ·have k:=y.2.2
   rw[append_assoc]at k
   exact(jz (akV (ofNat_lt.mpr KZ) (le_trans (le_add_right ..) hl) (le_trans hd (le_trans (add_le_add_right (le_trans (le_add_right ..) hf) 1) (by decide))) z.2)).trans k
theorem akB(hc:∀c∈cs,2≤c.length)(hl:cs.flatten.length≤500)(hn:cs.length≤50):∃ds,A2 oN cs ds∧(allR ds).length≤5000∧oW (n+6) 662 none [(eg cs b).av]=some (.val (.lst ((allR ds).map Row.v)),none):=by
 have h6:cs.flatten.length+3*cs.length≤5000:=le_trans (add_le_add hl (mul_le_mul_left 3 hn)) (by decide)
 refine(akU (n:=n) (C:=bl cs) (b:=b) cs [] .no hc hl (le_trans (le_of_eq (zero_add _)) h6)).elim fun ds z=>z.elim fun s z=>⟨ds,z.1,le_trans z.2.1 h6,?_⟩
 exists J5,wM,[.val (eg cs b).av,.no,.no]
 simp![q4]
 refine(congrArg _ z.2.2).trans ?_
 dsimp only[sf,nil_append]
 simp![]
theorem IX(a b):eS 8 (bp a) (bp b)=some (decide (a=b)):=by
 obtain⟨⟨a1,a2⟩,a3,a4⟩:=a
 obtain⟨⟨b1,b2⟩,b3,b4⟩:=b
 show some (((a1==b1)&&((a2==b2)&&true))&&(((a3==b3)&&((a4==b4)&&true))&&true))=_
 congr 1
 rw[Bool.eq_iff_iff]
 simp[and_assoc]
theorem agm(a):bh .ne (bp a) (bp a)=some false:=by
 show aw (eS 8 (bp a) (bp a)) (fun x=>some (!x))=_
 rw[IX,decide_eq_true rfl];rfl
theorem Sn(p)(E:List Sp):oQ (bp p) (E.map bp)=some (decide (p∈E)):=by
 induction E with
 |nil=>rfl
 |cons e E ih=>
  show aw (eS 8 (bp e) (bp p)) (fun x=>aw (oQ (bp p) (E.map bp)) fun q=>some (x||q))=_
  rw[IX,ih]
  refine congrArg some ?_
  rw[Bool.eq_iff_iff,Bool.or_eq_true,decide_eq_true_eq,decide_eq_true_eq,decide_eq_true_eq,mem_cons]
  exact or_congr_left eq_comm
theorem agr{p:Sp}{E:List Sp}(h:p∈E):bh .kZ (bp p) (.lst (E.map bp))=some false:=by
 show aw (oQ (bp p) (E.map bp)) (fun x=>some (!x))=_
 rw[Sn,decide_eq_true h];rfl
def lM(c:List Pt):List Sp:=(c.filter (·.2.2)).map iu
def Sg.k:Sg→Str
 |.line _=>Eh
 |.r7 _ _=>vq
theorem O6(g:Sg):bt g.v (.int 0)=some (.str g.k):=by cases g<;>rfl
theorem sgl(g:Sg):bt g.v (.int (-1))=some (bp g.e):=by cases g<;>rfl
theorem O8(g:Sg):bh .eq (.str g.k) (.str mT)=some false:=by cases g<;>kernel_rfl
theorem sgc(g:Sg):bh .eq (.str g.k) (.str oi)=some false:=by cases g<;>kernel_rfl
theorem Nk(s):bt (fT s) (.int 0)=some (.str mT):=rfl
theorem Nl(s):bt (fT s) (.int 1)=some (bp s):=rfl
theorem Ii:bt nu (.int 0)=some (.str oi):=rfl
theorem mm:bh .eq (.str mT) (.str mT)=some true:=by kernel_rfl
theorem Im:bh .eq (.str oi) (.str mT)=some false:=by kernel_rfl
theorem cc:bh .eq (.str oi) (.str oi)=some true:=by kernel_rfl
theorem nn:decide (([]:List AV)≠[])=false:=rfl
theorem Kt:∀{st aj},cG b xs st=some (.next,aj)→cG b (xs++ys) st=cG b ys aj:=by
 induction xs with
 |nil=>exact fun h=>congrArg (cG b ys) (congrArg Prod.snd (Option.some.inj h))
 |cons x xs ih=>
  intro st aj h
  have h:ak (b x st) (kS (cG b xs))=some (.next,aj):=h
  show ak (b x st) (kS (cG b (xs++ys)))=_
  cases e:b x st with
  |none=>rw[e]at h;cases h
  |some p=>
   cases p with|mk f s=>
   rw[e]at h
   cases f with
   |next=>exact ih h
   |ret r=>cases Option.some.inj h
def mq(n:Nat):AV→St→Option (br×St):=eG (.one 7) (bj ag.T (oW n) 1000 (cj qi 4))
section
variable {F CS RW BG:AV}
noncomputable abbrev iZ(F CS RW BG:AV)(at_:Int)(es:List AV)(s7 s8 s9:Slot):St:=[.val F,.val (.int 1),.val CS,.val RW,.val BG,.val (.int at_),.own (.lst es),s7,s8,s9]
theorem YD:mq n (fT a) (iZ F CS RW BG at_ es s7 s8 s9)=some (.next,iZ F CS RW BG (at_+1) [] (.val (fT a)) (.val (bp a)) s9):=by
 dsimp only[mq,cj,fv,dc,dq,dr,qi]
 simp![Nk,Nl,mm]
theorem YH{g:Sg}(hl:es.length≤10000):mq n g.v (iZ F CS RW BG at_ es s7 s8 s9)=some (.next,iZ F CS RW BG at_ (es++[bp g.e]) (.val g.v) (.val (bp g.e)) s9):=by
 dsimp only[mq,cj,fv,dc,dq,dr,qi]
 simp![O6,O8,sgc,sgl,dR]
theorem YC{a:Sp}{c:List Pt}{E:List Sp}(g1:bt CS (.int at_)=some (aY c))(g2:bt BG (.int at_)=some (fT a))(hc:c.length≤1000)(hE:∀p∈lM c,p∈E):
  mq n nu (iZ F CS RW BG at_ (E.map bp) s7 (.val (bp a)) s9)=some (.next,iZ F CS RW BG at_ (E.map bp) (.val nu) (.val (bp a)) (.val (.lst ((lM c).map bp)))):=by
 dsimp only[mq,cj,fv,dc,dq,dr,qi]
 simp![Ii,Im,cc,g1,show gJ (aY c)=some (c.map bo)from rfl]
 refine Wy bo (fun s1 s2 s3=>iZ F CS RW BG at_ (E.map bp) (.val nu) (.val (bp a)) s9++[s1,s2,s3]) (fun us acc _ _ _=>acc++(lM us).map bp=(lM c).map bp∧acc.length+us.length≤1000) c [] .no .no .no ⟨rfl,by rw[length_nil];omega⟩ (fun p us acc s1 s2 s3 h=> ?_) fun acc s1 s2 s3 h=> ?_
 ·have hl:=h.2
  rw[length_cons]at hl
  cases p with|mk x p=>cases p with|mk y on=>
  cases on with
  |true=>exact⟨acc++[bp (iu (x,y,true))],.val (.int x),.val (.int y),.val (.bool true),by
    dsimp only[bo]
    simp![]
    rfl,by rw[←h.1,append_assoc];rfl,by rw[length_append,length_singleton];omega⟩
  |false=>exact⟨acc,.val (.int x),.val (.int y),.val (.bool false),by
    dsimp only[bo]
    simp![],h.1,by omega⟩
 have h1:acc=(lM c).map bp:=(append_nil acc).symm.trans h.1
 subst h1
 simp![g2,Nl,agm]
 refine Ij bp (fun s=>iZ F CS RW BG at_ (E.map bp) (.val nu) (.val (bp a)) (.val (.lst ((lM c).map bp)))++[s]) (fun us acc _=>acc=[]∧∀p∈us,p∈E) (lM c) [] .no ⟨rfl,hE⟩ (fun p us acc s h=>⟨[],.val (bp p),?_,rfl,fun q hq=>h.2 q (.tail _ hq)⟩) fun acc s h=> ?_
 ·have e:=h.1
  subst e
  simp![agr (h.2 p (.head _))]
 ·have e:=h.1
  subst e
  simp![nn]
theorem YG:∀{L:List Sg} {E:List Sp} {s7 s8:Slot},E.length+L.length≤10000→cG (mq n) (L.map Sg.v) (iZ F CS RW BG at_ (E.map bp) s7 s8 s9)=some (.next,iZ F CS RW BG at_ ((E++L.map Sg.e).map bp) (L.foldl (fun _ g=>.val g.v) s7) (L.foldl (fun _ g=>.val (bp g.e)) s8) s9):=fun {L}=>by
 induction L with
 |nil=>exact fun _=>by rw[map_nil,map_nil,append_nil];rfl
 |cons g L ih=>
  intro E s7 s8 h
  rw[length_cons]at h
  have k:=ih (E:=E++[g.e]) (s7:=.val g.v) (s8:=.val (bp g.e)) (by rw[length_append,length_singleton];omega)
  rw[map_append,append_assoc]at k
  exact(jz (YH (by rw[length_map];omega))).trans k
theorem aea:∀{L:List Sg} {E:List Sp} {s:Slot},L.map Sg.e=E++[a]→L.foldl (fun _ g=>.val (bp g.e)) s=.val (bp a):=fun {L}=>by
 induction L with
 |nil=>exact fun {E} {s} h=>by cases E<;>cases h
 |cons g L ih=>
  intro E s h
  cases E with
  |nil=>
   have h2:=List.map_eq_nil_iff.mp (List.tail_eq_of_cons_eq h)
   rw[h2]
   exact congrArg (fun x=>Slot.val (bp x)) (head_eq_of_cons_eq h)
  |cons e E=>exact ih (List.tail_eq_of_cons_eq h)
theorem afR(h:p∈lM c):∃q∈c,q.2.2=true∧p=iu q:=(mem_map.mp h).elim fun q h=>⟨q,(List.mem_filter.mp h.1).1,(List.mem_filter.mp h.1).2,h.2.symm⟩
theorem YE{c:List Pt}{d:Sp×List Sg}(h:oN c d)(hc:c.length≤1000)(g1:bt CS (.int (at_+1))=some (aY c))(g2:bt BG (.int (at_+1))=some (fT d.1)):
  ∃cA lq sd se,cG (mq n) ((kA d).map Row.v) (iZ F CS RW BG at_ es s7 s8 s9)=some (.next,iZ F CS RW BG (at_+1) cA lq sd se):=by
 have hl:=h.2.2
 have h0:=h.1
 have k:=YG (n:=n) (F:=F) (CS:=CS) (RW:=RW) (BG:=BG) (at_:=at_+1) (s9:=s9) (L:=d.2) (E:=[]) (s7:=.val (fT d.1)) (s8:=.val (bp d.1)) (by rw[length_nil];omega)
 rw[h0.elim fun E e=>aea e]at k
 have mE:∀p∈lM c,p∈d.2.map Sg.e:=fun p hp=>(afR hp).elim fun q hq=>hq.2.2▸h.2.1 q hq.1 hq.2.1
 refine⟨(d.2.map Sg.e).map bp,.val nu,.val (bp d.1),.val (.lst ((lM c).map bp)),?_⟩
 rw[kA,map_append,map_cons,map_map]
 exact(jz YD).trans ((Kt k).trans (jz (YC (E:=d.2.map Sg.e) g1 g2 hc mE)))
theorem YF{dr:List (Sp×List Sg)}(h:A2 oN cr dr):∀{k:Nat} {es s7 s8 s9},(∀j c d,cr[j]? =some c→dr[j]? =some d→c.length≤1000∧bt CS (.int ((k+j:Nat):Int))=some (aY c)∧bt BG (.int ((k+j:Nat):Int))=some (fT d.1))→
  ∃at' cA lq sd se,cG (mq n) ((allR dr).map Row.v) (iZ F CS RW BG ((k:Int)-1) es s7 s8 s9)=some (.next,iZ F CS RW BG at' cA lq sd se):=by
 induction h with
 |nil=>exact fun _=>⟨_,_,_,_,_,rfl⟩
 |@cons c d cr dr a _ ih=>
  intro k es s7 s8 s9 h
  have h0:=h 0 c d rfl rfl
  rw[add_zero]at h0
  have e:(k:Int)-1+1=k:=Int.sub_add_cancel _ _
  refine(YE (n:=n) (F:=F) (RW:=RW) (at_:=(k:Int)-1) (es:=es) (s7:=s7) (s8:=s8) (s9:=s9) a h0.1 (by rw[e];exact h0.2.1) (by rw[e];exact h0.2.2)).elim fun cA q=>q.elim fun lq q=>q.elim fun sd q=>q.elim fun se q=> ?_
  refine(ih (k:=k+1) (es:=cA) (s7:=lq) (s8:=sd) (s9:=se) fun j c d h1 h2=>add_right_comm k j 1▸h (j+1) c d h1 h2).imp fun at' q2=>q2.imp fun nA q2=>q2.imp fun s72 q2=>q2.imp fun s82 q2=>q2.imp fun s92 q2=> ?_
  rw[allR,map_cons,flatten_cons,map_append,Kt q]
  rw[e,show((k:Int))=((k+1:Nat):Int)-1 by omega]
  exact q2
end
theorem aga(us)(r):eH (r::us)=eH [r]++eH us:=by cases r<;>rfl
theorem Yv(abS:oW n 1142 none [tV,.int 1]=some (.val (.lst ((allR ds).map Row.v)),none))(hm:bw ag.T tV rZ=some 1142)
  (h:A2 oN cs ds) (hr:(allR ds).length≤5000) (hl:cs.flatten.length≤500):oW (n+1) 1220 none [tV,.int 1,bl cs]=some (.val (.bool true),none):=by
 have hlen:=h.length
 have ud:aW .len [bl cs]=some (.int ds.length):=by rw[bl,rd,length_map,hlen]
 refine(YF (n:=n) (F:=tV) (CS:=bl cs) (RW:=.lst ((allR ds).map Row.v)) (BG:=.lst ((eH (allR ds)).map fT)) h (k:=0) (es:=[]) (s7:=.no) (s8:=.no) (s9:=.no) fun j c d h1 h2=>⟨?_,kB (natCast_nonneg _) ?_,kB (natCast_nonneg _) ?_⟩).elim fun at' q=>q.elim fun cA q=>q.elim fun lq q=>q.elim fun sd q=>q.elim fun se q=> ?_
 ·exact le_trans (xu cs c (mem_of_getElem? h1)) (by omega)
 ·rw[toNat_natCast,zero_add,getElem?_map,h1];rfl
 ·rw[toNat_natCast,zero_add,DK,getElem?_map,getElem?_map,h2];rfl
 exists Jq,qi,[.val tV,.val (.int 1),.val (bl cs),.no,.no,.no,.no,.no,.no,.no]
 simp![hm,abS]
 refine Ij Row.v (fun s=>[.val tV,.val (.int 1),.val (bl cs),.val (.lst ((allR ds).map Row.v)),.no,.no,.no,.no,.no,.no,s]) (fun us acc _=>acc++(eH us).map fT=(eH (allR ds)).map fT∧acc.length+us.length≤5000) (allR ds) [] .no ⟨rfl,by rw[length_nil];omega⟩ (fun r us acc s h=> ?_) fun acc s h=> ?_
 ·have hl:=h.2
  rw[length_cons]at hl
  have h1:=h.1
  rw[aga,map_append,←append_assoc]at h1
  refine⟨acc++(eH [r]).map fT,.val r.v,?_,h1,?_⟩
  ·cases r with
   |mv a=>
    dsimp only[Row.v,eH,map_cons,map_nil]
    simp![Nk,mm]
   |sg g=>
    dsimp only[Row.v,eH]
    rw[map_nil,append_nil]
    simp![O6,O8]
   |cl=>
    dsimp only[Row.v,eH]
    rw[map_nil,append_nil]
    simp![Ii,Im]
  ·have:((eH [r]).map fT).length≤1:=by cases r<;>first|exact le_refl _|exact zero_le _
   rw[length_append];omega
 have h1:acc=(eH (allR ds)).map fT:=(append_nil acc).symm.trans h.1
 subst h1
 have hml:((eH (allR ds)).map fT).length=ds.length:=by rw[DK,length_map,length_map]
 simp![hml,ud]
 refine(congrArg (cn _) q).trans ?_
 simp![]
noncomputable abbrev Src(a b:Int):AC:=.lst [.int a,.int b]
def dQ(b:Int):Prop:=0≤b∧b<2147483647
theorem aj0:vG 0 d kn st (.int 0) (.own (.lst [x,y]))=kn (st.set 0 (.own (.lst [d,y]))):=rfl
theorem aj1:vG 0 d kn st (.int 1) (.own (.lst [x,y]))=kn (st.set 0 (.own (.lst [x,d]))):=rfl
theorem oA{R:Prop}(hb:dQ b)(ht:0<top∧top≤100)(kk:∀r a' b',dQ b'→0≤r→r<top→oW (n+1) 1191 (some (Src a b)) [.int top]=some (.val (.int r),some (Src a' b'))→R):R:=by
 obtain⟨t0,t1⟩:=ht
 obtain⟨b0,b1⟩:=hb
 have s0:∀x y:AV,bt (.lst [x,y]) (.int 0)=some x:=fun _ _=>rfl
 have s1:∀x y:AV,bt (.lst [x,y]) (.int 1)=some y:=fun _ _=>rfl
 by_cases h:0<a
 ·refine kk (a%top) (a/top) b ⟨b0,b1⟩ (emod_nonneg _ (by lia)) (emod_lt_of_pos _ t0) ?_
  exists BV,Bf,[.own (Src a b),.val (.int top),.no]
  simp![s0,aj0]
 ·have h2:0≤(b*39373+7)%2147483647∧(b*39373+7)%2147483647<2147483647:=⟨emod_nonneg _ (by lia),emod_lt_of_pos _ (by lia)⟩
  obtain⟨h3,h4⟩:=h2
  generalize jA:(b*39373+7)%2147483647=b2 at h3 h4
  have h5:(-1099511627776:Int)≤b2∧b2≤1099511627776:=⟨Int.le_trans (by decide) h3,Int.le_of_lt (Int.lt_of_lt_of_le h4 (by decide))⟩
  refine kk (b2*b2%2147483629/32%top) a b2 ⟨h3,h4⟩ (emod_nonneg _ (by lia)) (emod_lt_of_pos _ t0) ?_
  exists BV,Bf,[.own (Src a b),.val (.int top),.no]
  simp![s0,s1,aj1,jA]
theorem oe{R:Prop}(l:List Int)(hb:dQ b)(hl:0<l.length∧l.length≤100)(kk:∀v a' b',v∈l→dQ b'→oW (n+2) 1198 (some (Src a b)) [.lst (l.map .int)]=some (.val (.int v),some (Src a' b'))→R):R:=by
 refine oA (n:=n) (a:=a) (top:=l.length) hb ⟨ofNat_lt.mpr hl.1,ofNat_le.mpr hl.2⟩ fun r a' b' h1 h2 h3 h4=> ?_
 have hr:r.toNat<l.length:=(toNat_lt h2).mpr h3
 have h5:bt (.lst (l.map .int)) (.int r)=some (.int l[r.toNat]):=kB h2 (by rw[getElem?_map,getElem?_eq_getElem hr];rfl)
 refine kk l[r.toNat] a' b' (getElem_mem hr) h1 ?_
 exists Js,Gp,[.own (Src a b),.val (.lst (l.map .int))]
 simp![length_map,h4,h5]
theorem ahN{n}{l:List Int}(hl:l.length≤1000):∃a b,dQ b∧oW (n+1) 1184 none [.lst (l.map .int),.int 0]=some (.fresh (Src a b),none):=by
 have key:∀c:Int,∃a b,dQ b∧∀st:St,a=(if c< -1-c then -1-c else c)*(if decide (1000000000000000000≤if c< -1-c then -1-c else c)=true then 1 else 0)∧b=((if c< -1-c then -1-c else c)%2147483629+7919*0+17)*48271%2147483647:=fun c=>
  ⟨_,_,⟨emod_nonneg _ (by lia),emod_lt_of_pos _ (by lia)⟩,fun _=>⟨rfl,rfl⟩⟩
 have hp:fZ .pow (.int 10) (.int 18)=some (.int 1000000000000000000):=rfl
 have Kk:∀x:Bool,(-1099511627776:Int)≤(if x=true then(1:Int)else 0)∧(if x=true then(1:Int)else 0)≤1099511627776:=fun x=>by cases x<;>decide
 match l,hl with
 |[],_=>
  obtain⟨a,b,h1,h2⟩:=key 0
  obtain⟨h3,h4⟩:=h2 []
  refine⟨a,b,h1,?_⟩
  rw[fM (d:=tQ) (st:=[.val (.lst []),.val (.int 0),.no,.no]) rfl rfl rfl,h3,h4]
  dsimp only[tQ,Be]
  have f1:=Kk (decide (1000000000000000000≤if(0:Int)< -1-0 then -1-0 else 0))
  simp![hp]
 |c::r,hl=>
  obtain⟨a,b,h1,h2⟩:=key c
  obtain⟨h3,h4⟩:=h2 []
  refine⟨a,b,h1,?_⟩
  have s0:bt (.lst (AV.int c::r.map .int)) (.int 0)=some (.int c):=kB (Int.le_refl 0) rfl
  have f1:=Kk (decide (1000000000000000000≤if c< -1-c then -1-c else c))
  rw[fM (d:=tQ) (st:=[.val (.lst (.int c::r.map .int)),.val (.int 0),.no,.no]) rfl rfl rfl,h3,h4]
  dsimp only[tQ,Be]
  simp![hp,s0]
def sG(k:Int)(pts:List Pt):Prop:=∀p∈pts,-k≤p.1∧p.1≤k∧ -k≤p.2.1∧p.2.1≤k
theorem Qr(k):sG k []:=fun p hp=>nomatch hp
def Bk(k x:Int):Prop:= -k≤x∧x≤k
def sI(i:Nat)(b:Int)(pts:List Pt)(x y:Int):Prop:=dQ b∧pts.length=i∧sG (400*i) pts∧Bk (400*i) x∧Bk (400*i) y
theorem sI.next(h:sI i b pts x y)(hb:dQ b2)(hx: -400≤dx∧dx≤400)(hy: -400≤dy∧dy≤400):sI (i+1) b2 (pts++[(x+dx,y+dy,o)]) (x+dx) (y+dy):=by
 have e:(400*((i+1:Nat):Int))=400*(i:Int)+400:=Int.mul_add 400 i 1
 have ax:=Hg h.2.2.2.1 hx
 have ay:=Hg h.2.2.2.2 hy
 rw[←e]at ax ay
 refine⟨hb,length_append.trans (congrArg (· +1) h.2.1),fun p hp=>(mem_append.mp hp).elim (fun hp=> ?_) fun hp=> ?_,ax,ay⟩
 ·exact Bl (e▸Int.le_add_of_nonneg_right (by decide)) (h.2.2.1 p hp)
 ·cases mem_singleton.mp hp;exact⟨ax.1,ax.2,ay.1,ay.2⟩
def qB(a b:Int)(pts:List Pt)(x y:Int)(s:Slot):St:=[.own (Src a b),.own (.lst (pts.map bo)),.val (.int x),.val (.int y),s]
def BA(n:Nat):AV→St→Option (br×St):=eG (.one 4) (bj ag.T (oW (n+2)) 1000 (cj wF 1))
theorem Xf(hl:pts.length≤100)
  (r1:oW (n+2) 1198 (some (Src a b)) [.lst [.int 0,.int 1,.int (-7),.int 255,.int 256,.int (-256),.int (-300)]]=some (.val (.int dx),some (Src a1 b1)))
  (r2:oW (n+2) 1198 (some (Src a1 b1)) [.lst [.int 0,.int 9,.int (-1),.int 255,.int (-255),.int 400]]=some (.val (.int dy),some (Src a2 b2)))
  (r3:oW (n+2) 1191 (some (Src a2 b2)) [.int 3]=some (.val (.int o),some (Src a3 b3))):
  BA n v (qB a b pts x y s)=some (.next,qB a3 b3 (pts++[(x+dx,y+dy,decide (0<o))]) (x+dx) (y+dy) (.val v)):=by
 dsimp only[BA,qB,cj,fv,dc,dq,dr,wF]
 rw[map_append]
 simp![r1,r2,r3,dR]
 rfl
def CR(n i:Nat)(xs:List AV)(st:St):Prop:=∃a b pts x y s,cG (BA n) xs st=some (.next,qB a b pts x y s)∧sI i b pts x y
theorem Xe:∀(xs:List AV) (i:Nat) (a b:Int) (pts:List Pt) (x y:Int) (s:Slot),i+xs.length≤100→sI i b pts x y→CR n (i+xs.length) xs (qB a b pts x y s):=by
 intro xs
 induction xs with
 |nil=>exact fun i a b pts x y s _ h=>⟨a,b,pts,x,y,s,rfl,h⟩
 |cons v xs ih=>
  intro i a b pts x y s hl h
  refine oe (n:=n) (a:=a) [0,1,-7,255,256,-256,-300] h.1 (by decide) fun dx a1 b1 xS i8 r1=> ?_
  refine oe (n:=n) (a:=a1) [0,9,-1,255,-255,400] i8 (by decide) fun dy a2 b2 hdy jA r2=> ?_
  refine oA (n:=n+1) (a:=a2) (top:=3) jA (by decide) fun o a3 b3 uc ho0 j9 r3=> ?_
  have ur: -400≤dx∧dx≤400:=(by decide:∀x∈[(0:Int),1,-7,255,256,-256,-300],-400≤x∧x≤400) dx xS
  have uw: -400≤dy∧dy≤400:=(by decide:∀x∈[(0:Int),9,-1,255,-255,400],-400≤x∧x≤400) dy hdy
  have e:i+(xs.length+1)=i+1+xs.length:=(succ_add_eq_add_succ i xs.length).symm
  have z:=ih (i+1) a3 b3 _ _ _ (.val v) (e▸hl) (h.next (o:=decide (0<o)) uc ur uw)
  rw[←e]at z
  unfold CR at z ⊢
  rw[←jz (Xf (v:=v) (s:=s) (h.2.1▸le_trans (le_add_right ..) hl) r1 r2 r3)]at z
  exact z
structure VO (cs:List (List Pt)):Prop where
 n0:1≤cs.length
 n1:cs.length≤2
 c:∀c∈cs,2≤c.length∧c.length≤4
 b:sG 1600 cs.flatten
theorem WZ{R:Prop}(hb:dQ b)(kk:∀c a' b',dQ b'→2≤c.length→c.length≤4→sG 1600 c→oW (n+3) 1205 (some (Src a b)) []=some (.fresh (.lst (c.map bo)),some (Src a' b'))→R):R:=by
 refine oA (n:=n+1) (a:=a) (top:=3) hb (by decide) fun r a1 b1 i8 C3 C4 ht=> ?_
 refine(eq_ofNat_of_zero_le C3).elim fun k hk=> ?_
 subst hk
 have hk:k<3:=ofNat_lt.mp C4
 have z:=Xe (n:=n) (ij 0 ((2+k:Nat):Int) 1) 0 a1 b1 [] 0 0 .no (by rw[mX,zero_add];exact le_trans (add_le_add_left (le_of_lt hk) 2) (by decide)) ⟨i8,rfl,Qr _,⟨by decide,by decide⟩,⟨by decide,by decide⟩⟩
 rw[mX,zero_add]at z
 unfold CR at z
 refine z.elim fun a2 z=>z.elim fun b2 z=>z.elim fun c z=>z.elim fun x z=>z.elim fun y z=>z.elim fun s z=>kk c a2 b2 z.2.1 (z.2.2.1▸le_add_right 2 k) (z.2.2.1▸add_le_add_left (le_of_lt_succ hk) 2) (fun p hp=>Bl (Int.mul_le_mul_of_nonneg_left (ofNat_le.mpr (add_le_add_left (le_of_lt_succ hk) 2)) (by decide):(400*((2+k:Nat):Int))≤400*4) (z.2.2.2.1 p hp)) ?_
 exists Jp,wF,[.own (Src a b),.no,.no,.no,.no]
 have h4:2+k≤4:=add_le_add_left (le_of_lt_succ hk) 2
 have e2:(2:Int)+(k:Int)=((2+k:Nat):Int):=rfl
 simp![ht,e2]
 refine(congrArg _ z.1).trans ?_
 dsimp only[qB]
 simp![]
def rD(a b:Int)(s:Slot):St:=[.own (Src a b),s]
def DU(n:Nat):AV→List AV→St→Option (List AV×St):=gL (.one 1) (fL ag.T (oW (n+3)) .no) (ev ag.T (oW (n+3)) (.cz u9 1205 0 .nil))
def Fm(cs:List (List Pt)):Prop:=∀c∈cs,2≤c.length∧c.length≤4∧sG 1600 c
def OR(n m:Nat)(xs acc:List AV)(st:St):Prop:=∃a b s cs,dS (DU n) xs acc st=some (cs.map aY,rD a b s)∧dQ b∧cs.length=m∧Fm cs
theorem agN(ha:acc.length<100)(h:oW (n+3) 1205 (some (Src a b)) []=some (.fresh (.lst (c.map bo)),some (Src a' b'))):DU n x acc (rD a b s)=some (acc++[aY c],rD a' b' (.val x)):=by
 dsimp only[DU,rD]
 simp![h]
 rfl
theorem agM:∀(xs:List AV) (cs:List (List Pt)) (a b:Int) (s:Slot),dQ b→Fm cs→cs.length+xs.length≤100→OR n (cs.length+xs.length) xs (cs.map aY) (rD a b s):=by
 intro xs
 induction xs with
 |nil=>exact fun cs a b s h1 h2 _=>⟨a,b,s,cs,rfl,h1,rfl,h2⟩
 |cons x xs ih=>
  intro cs a b s h1 h2 h3
  refine WZ (n:=n) (a:=a) h1 fun c a' b' lH h4 h5 h6 h7=> ?_
  have e:(cs++[c]).length+xs.length=cs.length+(xs.length+1):=by rw[length_append];exact succ_add_eq_add_succ cs.length xs.length
  have z:=ih (cs++[c]) a' b' (.val x) lH (fun d hd=>(mem_append.mp hd).elim (h2 d) fun hd=>mem_singleton.mp hd▸⟨h4,h5,h6⟩) (e▸h3)
  rw[e,map_append]at z
  unfold OR at z ⊢
  rw[List.map_singleton,←nv (agN (x:=x) (s:=s) (by rw[length_map];exact lt_of_lt_of_le (lt_add_of_pos_right (succ_pos _)) h3) h7)]at z
  exact z
theorem ag9(hb:dQ b):∃cs k a' b',dQ b'∧VO cs∧k≤2∧oW (n+4) 1210 (some (Src a b)) []=some (.fresh (eg cs (replicate k 0)),some (Src a' b')):=by
 refine oA (n:=n+2) (a:=a) (top:=2) hb (by decide) fun r a1 b1 i8 C3 C4 ht=> ?_
 refine(eq_ofNat_of_zero_le C3).elim fun k hk=> ?_
 subst hk
 have hk:1+k≤2:=add_le_add_left (le_of_lt_succ (ofNat_lt.mp C4)) 1
 have z:=agM (n:=n) (ij 0 ((1+k:Nat):Int) 1) [] a1 b1 .no i8 (fun _ h=>nomatch h) (by rw[mX];exact le_trans (add_le_add_left hk 0) (by decide))
 rw[mX]at z
 refine z.elim fun a2 z=>z.elim fun b2 z=>z.elim fun s z=>z.elim fun cs z=> ?_
 have nN:cs.length=1+k:=z.2.2.1.trans (zero_add _)
 refine oA (n:=n+2) (a:=a2) (top:=3) z.2.1 (by decide) fun m a3 b3 uc ui uj ht3=> ?_
 refine(eq_ofNat_of_zero_le ui).elim fun m' hm=> ?_
 subst hm
 have hm:m'≤2:=le_of_lt_succ (ofNat_lt.mp uj)
 have CM:(0:Int)≤m'∧(m':Int)≤16777216:=⟨natCast_nonneg _,ofNat_le.mpr (le_trans hm (by decide))⟩
 refine⟨cs,m',a3,b3,uc,⟨nN▸le_add_right 1 k,nN▸hk,fun c hc=>⟨(z.2.2.2 c hc).1,(z.2.2.2 c hc).2.1⟩,fun p hp=>(List.mem_flatten.mp hp).elim fun c h=>(z.2.2.2 c h.1).2.2 p h.2⟩,hm,?_⟩
 exists Jt,Gq,[.own (Src a b)]
 have e2:(1:Int)+(k:Int)=((1+k:Nat):Int):=rfl
 simp![ht,e2]
 refine(congrArg _ z.1).trans ?_
 dsimp only[rD]
 simp![take_succ_cons,take_zero,ht3,DW]
 rfl
noncomputable abbrev uG:AV:=.tup [.int 0,.int 0,.int 0,.int 0]
abbrev p9(a b:Int)(o p x:AV):AC:=.inst 1045 [(cN,.int a),(cT,.int b),(bH,o),(fB,p),(cw,x)]
theorem aew:oW (n+2) 1045 none [.int a,.int b]=some (.fresh (p9 a b .none .none uG),none):=oR (by kernel_rfl)
theorem aex:oW (n+2) 1045 none [.int a,.int b,o]=some (.fresh (p9 a b o .none uG),none):=oR (by kernel_rfl)
theorem aey:oW (n+2) 1045 none [.int a,.int b,o,p,x]=some (.fresh (p9 a b o p x),none):=oR (by kernel_rfl)
inductive aM where|nul|out (a:Int) (cs:List (List Pt)) (k:Nat)|cmp (o x0 y0 x1 y1:Int)
noncomputable def aM.ctorIdx(l:aM):Nat:=aM.casesOn (motive:=fun _=>Nat) l 0 (fun _ _ _=>1) fun _ _ _ _ _=>2
def aM.v:aM→AV
 |.nul=>(p9 500 0 .none .none uG).av
 |.out a cs k=>(p9 a (-3) (eg cs (replicate k 0)).av .none uG).av
 |.cmp o x0 y0 x1 y1=>(p9 500 9 .none (.lst [(eN 1 x0 y0).av,(eN o x1 y1).av]) (.tup [.int 0,.int 0,.int 1,.int 1])).av
def aM.ok:aM→Prop
 |.out _ cs k=>Good cs k∧cs.flatten≠[]
 |_=>True
def qP:aM→List UInt8→Prop
 |.nul,g=>g=[]
 |.out _ cs k,g=>Simp g cs k
 |.cmp o x0 y0 x1 y1,g=>g=iV o x0 y0 x1 y1
theorem kb:bh .hM .none .none=some true:=rfl
theorem mJ:bh .hN .none .none=some false:=rfl
theorem yd(c f):bh .hM (.inst c f) .none=some false:=rfl
theorem Dh(c f):bh .hN (.inst c f) .none=some true:=rfl
theorem LB(f):bh .hM (.lst f) .none=some false:=rfl
theorem Di(f):bh .hN (.lst f) .none=some true:=rfl
theorem agL(l:aM)(h:l.ok):∃g,qP l g∧g.length≤1000∧oW (n+4) 1035 none [l.v]=some (.val (.bytes g),none):=by
 cases l with
 |nul=>
  refine⟨[],rfl,by simp,?_⟩
  refine Eq.trans (fM (d:=o7) (st:=[.val aM.nul.v]) rfl rfl rfl) ?_
  dsimp only[o7,wC,aM.v]
  simp![kb,mJ]
 |out a cs k=>
  obtain⟨hg,h0⟩:=h
  refine Y7 (akZ (n:=n) (k:=k) h0 hg.l hg.n hg.k hg.b) fun x y z w bs cR he xP r=> ?_
  have hlen:(SO cs k [x,y,z,w] bs).length≤1000:=by
   have b2:(pE [x,y,z,w]).length=8:=pA _
   have b1:=pA (cM (-1) cs)
   rw[nz]at b1
   have a1:=qh (x:=0) (vs:=cs.flatten.map (·.1))
   have a2:=qh (x:=0) (vs:=cs.flatten.map (·.2.1))
   rw[length_map]at a1 a2
   have:=hg.l;have:=hg.n;have:=hg.k
   simp only[SO,length_append,fG,b2,b1,length_replicate]
   lia
  refine⟨_,⟨[x,y,z,w],bs,cR,rfl,he,xP,rfl⟩,hlen,?_⟩
  rw[eQ]at r
  refine Eq.trans (fM (d:=o7) (st:=[.val (aM.out a cs k).v]) rfl rfl rfl) ?_
  dsimp only[o7,wC,aM.v]
  simp![kb,mJ,yd,r]
 |cmp o x0 y0 x1 y1=>
  have hlen:(iV o x0 y0 x1 y1).length≤1000:=by
   have:=wy x0 y0
   have:=wy x1 y1
   have b2:(pE [0,0,1,1]).length=8:=pA _
   simp only[iV,length_append,fG,b2]
   lia
  refine⟨_,rfl,hlen,?_⟩
  have r:=WV (n:=n) (o:=o) (x0:=x0) (y0:=y0) (x1:=x1) (y1:=y1)
  refine Eq.trans (fM (d:=o7) (st:=[.val (aM.cmp o x0 y0 x1 y1).v]) rfl rfl rfl) ?_
  dsimp only[o7,wC,aM.v]
  rw[eQ,eQ]at r
  simp![kb,mJ,Di,r]
theorem ae4(l:aM)(h:l.ok):∃p q:Int,oW (n+2) 1042 none [l.v]=some (.val (.tup [.int p,.int q]),none):=by
 cases l with
 |nul=>
  refine⟨0,0,?_⟩
  refine Eq.trans (fM (d:=o8) (st:=[.val aM.nul.v]) rfl rfl rfl) ?_
  dsimp only[o8,wD,aM.v]
  simp![kb]
 |out a cs k=>
  obtain⟨hg,h0⟩:=h
  have r:=Ea (n:=n) (cs:=cs) (b:=replicate k 0) (by have:=hg.l;lia)
  rw[eQ]at r
  have hc:aW .len [bl cs]=some (.int cs.length):=by rw[bl,rd,length_map]
  refine⟨cs.flatten.length,cs.length,?_⟩
  refine Eq.trans (fM (d:=o8) (st:=[.val (aM.out a cs k).v]) rfl rfl rfl) ?_
  dsimp only[o8,wD,aM.v]
  simp![yd,r,length_map,hc]
 |cmp o x0 y0 x1 y1=>
  refine⟨0,0,?_⟩
  refine Eq.trans (fM (d:=o8) (st:=[.val (aM.cmp o x0 y0 x1 y1).v]) rfl rfl rfl) ?_
  dsimp only[o8,wD,aM.v]
  simp![kb]
noncomputable abbrev Bx:=Int×Int×Int×Int
noncomputable def iD(b:Bx):AV:=.tup [.int b.1,.int b.2.1,.int b.2.2.1,.int b.2.2.2]
def px:Option Bx→AV
 |none=>.none
 |some b=>iD b
theorem Hs(b):bt (iD b) (.int 0)=some (.int b.1):=rfl
theorem Ht(b):bt (iD b) (.int 1)=some (.int b.2.1):=rfl
theorem Hu(b):bt (iD b) (.int 2)=some (.int b.2.2.1):=rfl
theorem Hv(b):bt (iD b) (.int 3)=some (.int b.2.2.2):=rfl
theorem Dg(b):bh .hM (iD b) .none=some false:=rfl
def pX(L:List AV)(ob:Option Bx)(s:Slot×Slot):St:=[.val (.lst L),.val (px ob),s.1,s.2]
def Ff(n:Nat):AV→St→Option (br×St):=eG (.one 2) (bj ag.T (oW (n+2)) 1000 (cj wN 1))
theorem amB{ob:Option Bx}{L s}(l:aM)(hl:l.ok):∃DS s',Ff n l.v (pX L ob s)=some (.next,pX L DS s'):=by
 dsimp only[Ff,pX,cj,fv,dc,dq,dr,wN]
 cases l with
 |nul=>
  refine⟨ob,(.val aM.nul.v,.val uG),?_⟩
  dsimp only[aM.v]
  simp![kb,mJ]
 |out a cs k=>
  refine(Hq (n:=n) (cs:=cs) (b:=replicate k 0) (le_trans hl.1.l (by decide)) hl.2).elim fun x h=>h.elim fun y h=>h.elim fun z h=>h.elim fun w r=> ?_
  rw[eQ]at r
  have r:_=some (Res.val (iD (x,y,z,w)),none):=r
  cases ob with
  |none=>
   refine⟨some (x,y,z,w),(.val (aM.out a cs k).v,.val (iD (x,y,z,w))),?_⟩
   dsimp only[aM.v,px]
   simp![kb,mJ,yd,Dh,r]
  |some b=>
   refine⟨some (if x<b.1 then x else b.1,if y<b.2.1 then y else b.2.1,if b.2.2.1<z then z else b.2.2.1,if b.2.2.2<w then w else b.2.2.2),(.val (aM.out a cs k).v,.val (iD (x,y,z,w))),?_⟩
   dsimp only[aM.v,px]
   simp![kb,mJ,yd,Dh,Dg,r,Hs,Ht,Hu,Hv]
   rfl
 |cmp o x0 y0 x1 y1=>
  have KX:AV.tup [.int 0,.int 0,.int 1,.int 1]=iD (0,0,1,1):=rfl
  cases ob with
  |none=>
   refine⟨some (0,0,1,1),(.val (aM.cmp o x0 y0 x1 y1).v,.val (iD (0,0,1,1))),?_⟩
   dsimp only[aM.v,px]
   rw[KX]
   simp![kb,mJ,LB,Di]
  |some b=>
   refine⟨some (if(0:Int)<b.1 then 0 else b.1,if(0:Int)<b.2.1 then 0 else b.2.1,if b.2.2.1<1 then 1 else b.2.2.1,if b.2.2.2<1 then 1 else b.2.2.2),(.val (aM.cmp o x0 y0 x1 y1).v,.val (iD (0,0,1,1))),?_⟩
   dsimp only[aM.v,px]
   rw[KX]
   simp![kb,mJ,LB,Di,Dg,Hs,Ht,Hu,Hv]
   rfl
theorem amA{L}:∀(ls:List aM) (ob:Option Bx) (s:Slot×Slot),(∀l∈ls,l.ok)→∃DS s',cG (Ff n) (ls.map aM.v) (pX L ob s)=some (.next,pX L DS s'):=by
 intro ls
 induction ls with
 |nil=>exact fun ob s _=>⟨ob,s,rfl⟩
 |cons l ls ih=>exact fun ob s h=>(amB l (h l (.head _))).elim fun ob1 k=>k.elim fun s1 k=>(ih ob1 s1 fun x hx=>h x (.tail _ hx)).imp fun ob2 z=>z.imp fun s2 z=>(jz k).trans z
theorem amF(ls:List aM)(h:∀l∈ls,l.ok):∃b:Bx,oW (n+3) 1080 none [.lst (ls.map aM.v)]=some (.val (iD b),none):=by
 refine(amA (n:=n) (L:=ls.map aM.v) ls none (.no,.no) h).elim fun ob z=>z.elim fun s z=> ?_
 have g:oW (n+3) 1080 none [.lst (ls.map aM.v)]=_:=fM (d:=B9) (st:=[.val (.lst (ls.map aM.v)),.no,.no,.no]) rfl rfl rfl
 dsimp only[B9,wN]at g
 cases ob with
 |none=>
  refine⟨(0,0,0,0),g.trans ?_⟩
  simp![]
  refine(congrArg _ z).trans ?_
  dsimp only[pX,px]
  simp![kb]
  rfl
 |some b=>
  refine⟨b,g.trans ?_⟩
  simp![]
  refine(congrArg _ z).trans ?_
  dsimp only[pX,px]
  simp![Dg]
noncomputable def qS(L:List AV)(v:Int)(s:Slot):St:=[.val (.lst L),.val (.int v),s]
def Cq(n:Nat):AV→St→Option (br×St):=eG (.one 2) (bj ag.T (oW n) 1000 (cj wI 1))
theorem aa1{n L}:∀(l:List Int) (v:Int) (s:Slot),∃v' s',cG (Cq n) (l.map .int) (qS L v s)=some (.next,qS L v' s'):=by
 intro l
 induction l with
 |nil=>exact fun v s=>⟨v,s,rfl⟩
 |cons y l ih=>
  intro v s
  have k:Cq n (.int y) (qS L v s)=some (.next,qS L (if v<y then y else v) (.val (.int y))):=by
   dsimp only[Cq,qS,cj,fv,dc,dq,dr,wI]
   simp![]
  exact(ih _ _).imp fun v' z=>z.imp fun s' z=>(jz k).trans z
theorem Cr(l:List Int):∃v:Int,oW (n+1) 1093 none [.lst (l.map .int)]=some (.val (.int v),none):=
 (aa1 (n:=n) (L:=l.map .int) l 0 .no).imp fun v z=>z.elim fun s z=>by
  exists JG,wI,[.val (.lst (l.map .int)),.no,.no]
  simp![]
  refine(congrArg _ z).trans ?_
  dsimp only[qS]
  simp![]
abbrev A5(ls:List aM)(o X f:Int)(k:Nat)(u:Int)(lg:Bool):AC:=.inst 1069 [(dg,.lst (ls.map aM.v)),(dm,.aq (lE o X)),(dY,.lst [.tup [.int 3,.int 1,.int f]]),(bC,gk k),(bA,.int u),(bL,.bool lg),(bg,.tup [.int 8,.int (-2),.int 1])]
theorem ahL:oW (n+2) 1069 none [a,b,c,d,e,f,g]=some (.fresh (.inst 1069 [(dg,a),(dm,b),(dY,c),(bC,d),(bA,e),(bL,f),(bg,g)]),none):=oR (by kernel_rfl)
noncomputable def fu:aM→Int×Int
 |.nul=>(500,0)
 |.out a _ _=>(a,-3)
 |.cmp .. =>(500,9)
theorem yE(l:aM):aQ ag.T l.v cN=some (.int (fu l).1):=by cases l<;>rfl
theorem Dz(l:aM):aQ ag.T l.v cT=some (.int (fu l).2):=by cases l<;>rfl
theorem aeQ(l:aM):bw ag.T l.v aH=some 1035:=by cases l<;>rfl
theorem aeS(l:aM):bw ag.T l.v gr=some 1042:=by cases l<;>rfl
theorem qF(k v):dh [] k v=[(k,v)]:=rfl
theorem qE(h:jH k' k=false):dh ((k',v')::r) k v=(k',v')::dh r k v:=by rw[dh,h];rfl
def ct(g l m h x e c:List UInt8)(k:Nat):Tag→List UInt8
 |.ml=>c|.mz=>g|.head=>h|.nP=>e|.mC=>m|.kU=>n5 k|.mN=>l|.n8=>x
noncomputable def tM(k:Nat):List Tag:=[.mz,.mN,.mC,.head,.n8,.nP,.ml]++if k=0 then []else [.kU]
noncomputable def tL(k:Nat):List Tag:=[.ml,.mz,.head,.nP,.mC]++(if k=0 then []else [.kU])++[.mN,.n8]
noncomputable def t7:List Tag:=[.ml,.mz,.head,.nP,.mC,.mN,.n8]
noncomputable def tl(ts:List Tag)(f:Tag→List UInt8):TL:=ts.map fun t=>(t,f t)
def MT(g l m h x e c:List UInt8)(k:Nat):TL:=tl (tM k) (ct g l m h x e c k)
def LT(g l m h x e c:List UInt8)(k:Nat):TL:=tl (tL k) (ct g l m h x e c k)
theorem E8:(tl ts f).map (·.1)=ts:=(map_map ..).trans (List.map_id' _)
theorem pS(h:t∈ts):(t,f t)∈tl ts f:=mem_map_of_mem (f:=fun t=>(t,f t)) h
theorem amf(h:(t,b)∈tl ts f):t∈ts∧b=f t:=(mem_map.mp h).elim fun s h=>by cases h.2;exact⟨h.1,rfl⟩
structure wt (k:Nat) (ts:List Tag):Prop where
 s:oz (ts.map fun t=>.str t.s)=some ((tL k).map fun t=>.str t.s)
 m:∀t∈tL k,t∈ts
 n:ts.Nodup
 l:ts.length≤8
theorem tgM(hk:k=0∨k=1∨k=2):wt k (tM k):=by rcases hk with rfl|rfl|rfl<;>exact⟨by kernel_rfl,by decide,by decide,by decide⟩
theorem E6(hk:k=0∨k=1∨k=2):wt k (tL k):=by rcases hk with rfl|rfl|rfl<;>exact⟨by kernel_rfl,by decide,by decide,by decide⟩
theorem AM(hk:k=0∨k=1∨k=2):∀t∈t7,t∈tL k:=by rcases hk with rfl|rfl|rfl<;>decide
theorem Pu(h:wt k ts)(hL:wt k (tL k))(hf:∀t,(f t).length≤100000):TB (tl ts f) (tl (tL k) f) where
 tags:=by
  rw[enc,bv,tl,tl,map_map,map_map,map_map,map_map]
  exact h.s
 mem:=fun p hp=>(mem_map.mp hp).elim fun t q=>q.2▸pS (h.m t q.1)
 nd:=E8.symm▸h.n
 kh:=E8.symm▸hL.n
 Kj:=by rw[tl,length_map];exact le_trans h.l (by decide)
 nB:=by rw[tl,length_map];exact hL.l
 len:=fun p hp=>(mem_map.mp hp).elim fun t q=>q.2▸hf t
theorem Iv(hk:k=0∨k=1∨k=2)(h1:g.length≤100000)(h2:l.length≤100000)(h3:m.length≤100000)(h4:h.length≤100000)(h5:x.length≤100000)(h6:e.length≤100000)(h7:c.length≤100000)(t:Tag):(ct g l m h x e c k t).length≤100000:=by
 cases t with
 |kU=>exact le_trans (kn4 hk) (by decide)
 |_=>assumption
theorem VF:(∀a∈l,∃b,R a b)→∃m,A2 R l m:=by
 induction l with
 |nil=>exact fun _=>⟨[],.nil⟩
 |cons a l ih=>exact fun h=>(h a (.head _)).elim fun b hb=>(ih fun x hx=>h x (.tail _ hx)).elim fun m hm=>⟨b::m,.cons hb hm⟩
theorem A2.get{α β:Type}{R:α→β→Prop}{l m}(h:A2 R l m):∀(i:Nat) (a:α),l[i]? =some a→∃b,m[i]? =some b∧R a b:=by
 induction h with
 |nil=>exact fun i p h=>nomatch h
 |cons c _ ih=>
  intro i a e
  cases i with
  |zero=>exact⟨_,rfl,Option.some.inj e▸c⟩
  |succ i=>exact ih i a e
theorem A2.mem(h:A2 R l m):∀b∈m,∃a∈l,R a b:=by
 induction h with
 |nil=>exact fun b h=>nomatch h
 |cons c _ ih=>exact fun b h=>(mem_cons.mp h).elim (fun e=>⟨_,.head _,e▸c⟩) fun h=>(ih b h).imp fun a q=>⟨.tail _ q.1,q.2⟩
theorem agV:fU kk st (gk k)=kk (.fresh (.lst ((lO k).map fun p=>.tup [.int p.1,.int p.2.1,.int p.2.2]))) st:=rfl
noncomputable def fw(os:List (Int×List (List Pt)×Nat))(o x0 y0 x1 y1:Int):List aM:=.nul::os.map (fun t=>aM.out t.1 t.2.1 t.2.2)++[.cmp o x0 y0 x1 y1]
theorem My(os o x0 y0 x1 y1):(fw os o x0 y0 x1 y1).map fu=fJ (os.map (·.1)):=by
 simp[fw,fJ,fu,Function.comp_def]
theorem A2.zip{α β:Type}{R:α→β→Prop}{l:List α}{m:List β}(h:A2 R l m):∃rs:List (α×β),rs.map (·.1)=l∧∀r∈rs,R r.1 r.2:=by
 induction h with
 |nil=>exact⟨[],rfl,fun _ h=>nomatch h⟩
 |@cons a b l m c _ ih=>exact ih.elim fun rs h=>⟨(a,b)::rs,congrArg (a:: ·) h.1,fun r hr=>(mem_cons.mp hr).elim (fun e=>e▸c) (h.2 r)⟩
noncomputable abbrev kH:=aM×List UInt8×(Int×Int)
theorem UM{n:Nat}{rs:List kH}{B1 B2 B3 B4 B5 B6 B7 C W:List UInt8}{CD:AV}{KV:List (AV×AV)}{f u mm p q w:Int}(yl:rs.length≤8)(yo:∀r∈rs,oW (n+5) 1035 none [r.1.v]=some (.val (.bytes r.2.1),none))(ys:∀r∈rs,oW (n+5) 1042 none [r.1.v]=some (.val (.tup [.int r.2.2.1,.int r.2.2.2]),none))(yg:oW (n+5) 913 none [.lst (rs.map fun r=>.bytes r.2.1),.bool lg]=some (.val (.tup [.bytes B1,.bytes B2]),none))(ym:oW (n+5) 965 none [.lst (rs.map fun r=>.tup [.int (fu r.1).1,.int (fu r.1).2])]=some (.val (.tup [.bytes B3,.int mm]),none))(yb:oW (n+5) 1080 none [.lst (rs.map fun r=>r.1.v)]=some (.val (iD bx),none))(yh:oW (n+5) 486 none [.inst 468 [(bA,.int u),(cw,.tup [.int bx.1,.int bx.2.1,.int bx.2.2.1,.int bx.2.2.2]),(bL,.bool lg),(eX,.int 0),(jj,.int 0)]]=some (.val (.bytes B4),none))(yfp:oW (n+5) 1093 none [.lst (rs.map fun r=>.int r.2.2.1)]=some (.val (.int p),none))(yfq:oW (n+5) 1093 none [.lst (rs.map fun r=>.int r.2.2.2)]=some (.val (.int q),none))(yx:oW (n+5) 500 none [.int rs.length,.int p,.int q,.int 8]=some (.val (.bytes B5),none))(yfw:oW (n+5) 1093 none [.lst (rs.map fun r=>.int (fu r.1).1)]=some (.val (.int w),none))(ye:oW (n+5) 542 none [.inst 524 [(iN,.int 8),(iP,.int (-2)),(iR,.int 1),(cJ,.int mm)],.int w]=some (.val (.bytes B6),none))(yc1:oW (n+5) 436 none [.int f,CD]=some (.val (.bytes C),none))(yc2:oW (n+5) 443 none [.lst [.tup [.int 3,.int 1,.bytes C]]]=some (.val (.bytes B7),none))(yk:(pl.length=0∧KV=[])∨(0<pl.length∧∃BK,oW (n+5) 1012 none [.lst pl]=some (.val (.bytes BK),none)∧KV=[(.str gp,.bytes BK)]))(yt:oW (n+5) 245 none [.inst 171 [(cu,.aq ([(.str lP,.bytes B1),(.str lR,.bytes B2),(.str lQ,.bytes B3),(.str bq,.bytes B4),(.str oj,.bytes B5),(.str pK,.bytes B6),(.str rV,.bytes B7)]++KV))]]=some (.val (.bytes W),none)):oW (n+6) 1086 none [.inst 1069 [(dg,.lst (rs.map fun r=>r.1.v)),(dm,CD),(dY,.lst [.tup [.int 3,.int 1,.int f]]),(bC,.lst pl),(bA,.int u),(bL,.bool lg),(bg,.tup [.int 8,.int (-2),.int 1])]]=some (.val (.bytes W),none):=by
 have dE:rs.length≤16777216:=le_trans yl (by decide)
 exists Jy,Gw,[.val (.inst 1069 [(dg,.lst (rs.map fun r=>r.1.v)),(dm,CD),(dY,.lst [.tup [.int 3,.int 1,.int f]]),(bC,.lst pl),(bA,.int u),(bL,.bool lg),(bg,.tup [.int 8,.int (-2),.int 1])]),.val (.none),.no,.no,.no,.no,.no,.no,.no,.no,.no,.no]
 simp![kb]
 refine uC (fun r:kH=>r.1.v) (fun r=>.bytes r.2.1) (fun s=>[.val (.inst 1069 [(dg,.lst (rs.map fun r=>r.1.v)),(dm,CD),(dY,.lst [.tup [.int 3,.int 1,.int f]]),(bC,.lst pl),(bA,.int u),(bL,.bool lg),(bg,.tup [.int 8,.int (-2),.int 1])]),.val .none,.own (.aq []),.no,.no,.no,.no,.no,.no,.no,.no,.no,s]) rs .no dE (fun r hr acc s fP=>⟨.val r.1.v,by
  have:=yo r hr
  simp![aeQ,this]⟩) fun s=> ?_
 simp![yg]
 refine uC (fun r:kH=>r.1.v) (fun r=>.tup [.int (fu r.1).1,.int (fu r.1).2]) (fun s=>[.val (.inst 1069 [(dg,.lst (rs.map fun r=>r.1.v)),(dm,CD),(dY,.lst [.tup [.int 3,.int 1,.int f]]),(bC,.lst pl),(bA,.int u),(bL,.bool lg),(bg,.tup [.int 8,.int (-2),.int 1])]),.val .none,.own (.aq []),.val (.bytes B1),.val (.bytes B2),.no,.no,.no,.no,.no,.no,.no,s]) rs .no dE (fun r hr acc s fP=>⟨.val r.1.v,by simp![yE,Dz]⟩) fun s=> ?_
 simp![ym]
 refine uC (fun r:kH=>r.1.v) (fun r=>.tup [.int r.2.2.1,.int r.2.2.2]) (fun s=>[.val (.inst 1069 [(dg,.lst (rs.map fun r=>r.1.v)),(dm,CD),(dY,.lst [.tup [.int 3,.int 1,.int f]]),(bC,.lst pl),(bA,.int u),(bL,.bool lg),(bg,.tup [.int 8,.int (-2),.int 1])]),.val .none,.own (.aq []),.val (.bytes B1),.val (.bytes B2),.val (.bytes B3),.val (.int mm),.no,.no,.no,.no,.no,s]) rs .no dE (fun r hr acc s fP=>⟨.val r.1.v,by
  have:=ys r hr
  simp![aeS,this]⟩) fun s=> ?_
 simp![pM,qF,qE,yb,abt,iD,yh]
 refine Nb (f:=gL (.many [12,13]) (fL ag.T (oW (n+5)) .no) (ev ag.T (oW (n+5)) (.var 12))) (fun r:kH=>AV.tup [AV.int r.2.2.1,AV.int r.2.2.2]) (fun r:kH=>AV.int r.2.2.1) (fun s1 s2=>[.val (.inst 1069 [(dg,.lst (rs.map fun r=>r.1.v)),(dm,CD),(dY,.lst [.tup [.int 3,.int 1,.int f]]),(bC,.lst pl),(bA,.int u),(bL,.bool lg),(bg,.tup [.int 8,.int (-2),.int 1])]),.val .none,.own (.aq [(.str lP,.bytes B1),(.str lR,.bytes B2),(.str lQ,.bytes B3),(.str bq,.bytes B4)]),.val (.bytes B1),.val (.bytes B2),.val (.bytes B3),.val (.int mm),.val (.lst (rs.map fun r=>.tup [.int r.2.2.1,.int r.2.2.2])),.no,.no,.no,.no,s1,s2]) rs .no .no dE (fun r hr acc s1 s2 fP=>⟨.val (.int r.2.2.1),.val (.int r.2.2.2),by simp![]⟩) fun s1 s2=> ?_
 simp![yfp]
 refine Nb (f:=gL (.many [12,13]) (fL ag.T (oW (n+5)) .no) (ev ag.T (oW (n+5)) (.var 13))) (fun r:kH=>AV.tup [AV.int r.2.2.1,AV.int r.2.2.2]) (fun r:kH=>AV.int r.2.2.2) (fun s1 s2=>[.val (.inst 1069 [(dg,.lst (rs.map fun r=>r.1.v)),(dm,CD),(dY,.lst [.tup [.int 3,.int 1,.int f]]),(bC,.lst pl),(bA,.int u),(bL,.bool lg),(bg,.tup [.int 8,.int (-2),.int 1])]),.val .none,.own (.aq [(.str lP,.bytes B1),(.str lR,.bytes B2),(.str lQ,.bytes B3),(.str bq,.bytes B4)]),.val (.bytes B1),.val (.bytes B2),.val (.bytes B3),.val (.int mm),.val (.lst (rs.map fun r=>.tup [.int r.2.2.1,.int r.2.2.2])),.no,.no,.no,.no,s1,s2]) rs .no .no dE (fun r hr acc s1 s2 fP=>⟨.val (.int r.2.2.1),.val (.int r.2.2.2),by simp![]⟩) fun s1 s2=> ?_
 simp![yfq,length_map,yx,pM,qF,qE]
 refine uC (fun r:kH=>r.1.v) (fun r=>.int (fu r.1).1) (fun s=>[.val (.inst 1069 [(dg,.lst (rs.map fun r=>r.1.v)),(dm,CD),(dY,.lst [.tup [.int 3,.int 1,.int f]]),(bC,.lst pl),(bA,.int u),(bL,.bool lg),(bg,.tup [.int 8,.int (-2),.int 1])]),.val .none,.own (.aq [(.str lP,.bytes B1),(.str lR,.bytes B2),(.str lQ,.bytes B3),(.str bq,.bytes B4),(.str oj,.bytes B5)]),.val (.bytes B1),.val (.bytes B2),.val (.bytes B3),.val (.int mm),.val (.lst (rs.map fun r=>.tup [.int r.2.2.1,.int r.2.2.2])),.val (.int 8),.val (.int (-2)),.val (.int 1),.no,s]) rs .no dE (fun r hr acc s fP=>⟨.val r.1.v,by simp![yE]⟩) fun s=> ?_
 simp![yfw,Mq,ye,pM,qF,qE]
 refine afN (fun i:Int=>.tup [.int 3,.int 1,.int i]) (fun _=>.tup [.int 3,.int 1,.bytes C]) (fun s1 s2 s3=>[.val (.inst 1069 [(dg,.lst (rs.map fun r=>r.1.v)),(dm,CD),(dY,.lst [.tup [.int 3,.int 1,.int f]]),(bC,.lst pl),(bA,.int u),(bL,.bool lg),(bg,.tup [.int 8,.int (-2),.int 1])]),.val .none,.own (.aq [(.str lP,.bytes B1),(.str lR,.bytes B2),(.str lQ,.bytes B3),(.str bq,.bytes B4),(.str oj,.bytes B5),(.str pK,.bytes B6)]),.val (.bytes B1),.val (.bytes B2),.val (.bytes B3),.val (.int mm),.val (.lst (rs.map fun r=>.tup [.int r.2.2.1,.int r.2.2.2])),.val (.int 8),.val (.int (-2)),.val (.int 1),.val (.int w),s1,s2,s3]) [f] .no .no .no (le_of_ble_eq_true rfl) (fun i hi acc s1 s2 s3 fP=>⟨.val (.int 3),.val (.int 1),.val (.int f),by
  cases mem_singleton.mp hi
  simp![yc1]⟩) fun s1 s2 s3=> ?_
 simp![yc2,pM,qF,qE]
 refine yk.elim (fun k=> ?_) fun k=>k.2.elim fun BK q=> ?_
 ·rw[k.2]at yt
  dsimp only[cons_append,nil_append,append_nil]at yt
  have k1:=k.1
  simp![EZ,yt]
 ·rw[q.2]at yt
  dsimp only[cons_append,nil_append,append_nil]at yt
  have k1:=k.1
  have q1:=q.1
  simp![q1,pM,qF,qE,EZ,yt]
theorem A2.of_map{α β γ:Type}{R:α→β→Prop}{f:γ→α}{g:γ→β}{l:List γ}(h:∀r∈l,R (f r) (g r)):A2 R (l.map f) (l.map g):=by
 induction l with
 |nil=>exact .nil
 |cons r l ih=>exact .cons (h r (.head _)) (ih fun x hx=>h x (.tail _ hx))
def Fv(n:Nat)(r:kH):Prop:=(qP r.1 r.2.1∧r.2.1.length≤1000∧oW (n+5) 1035 none [r.1.v]=some (.val (.bytes r.2.1),none))∧oW (n+5) 1042 none [r.1.v]=some (.val (.tup [.int r.2.2.1,.int r.2.2.2]),none)
theorem UL{n}{ls:List aM}(i9:∀l∈ls,l.ok):∃rs:List kH,rs.map (·.1)=ls∧∀r∈rs,Fv n r:=
 (VF (R:=fun l x=>Fv n (l,x)) fun l hl=>(agL (n:=n+1) l (i9 l hl)).elim fun g h=>(ae4 (n:=n+3) l (i9 l hl)).elim fun p y=>y.elim fun q y=>⟨(g,p,q),h,y⟩).elim fun _ h=>h.zip
def D9(k:Nat):List AV:=(lO k).map fun p=>.tup [.int p.1,.int p.2.1,.int p.2.2]
def az(B1 B2 B3 B4 B5 B6 B7:List UInt8)(KV:List (AV×AV)):List (AV×AV):=[(.str lP,.bytes B1),(.str lR,.bytes B2),(.str lQ,.bytes B3),(.str bq,.bytes B4),(.str oj,.bytes B5),(.str pK,.bytes B6),(.str rV,.bytes B7)]++KV
theorem UJ(hk:k=0∨k=1∨k=2):∃KV,(∀B1 B2 B3 B4 B5 B6 B7:List UInt8,cP (MT B1 B2 B3 B4 B5 B6 B7 k)=.inst 171 [(cu,.aq (az B1 B2 B3 B4 B5 B6 B7 KV))])∧(((D9 k).length=0∧KV=[])∨(0<(D9 k).length∧∃BK,oW (n+5) 1012 none [.lst (D9 k)]=some (.val (.bytes BK),none)∧KV=[(.str gp,.bytes BK)])):=by
 rcases hk with rfl|hk
 ·exact⟨[],fun _ _ _ _ _ _ _=>by kernel_rfl,.inl ⟨rfl,rfl⟩⟩
 ·exact⟨[(.str gp,.bytes (n5 k))],fun _ _ _ _ _ _ _=>by rcases hk with rfl|rfl<;>kernel_rfl,.inr ⟨by rcases hk with rfl|rfl<;>decide,_,kn1 hk,rfl⟩⟩
theorem UK{R:Prop}{n}{ls:List aM}{as:List Int}{o X f:Int}{u:Int}{lg:Bool}(i9:∀l∈ls,l.ok)(hn:ls.length≤8)(has:as∈nc)(ub:ls.map fu=fJ as)
  (hf:f=4∨f=12) (ho:o=1∨o=2) (hX:X=67∨X=97∨X=40000) (hk:k=0∨k=1∨k=2) (kk:∀(gs:List (List UInt8)) (bx:Bx) (p q w pp ee:Int),A2 qP ls gs→(∀g∈gs,g.length≤1000)→TB (MT (go gs gs.length) (told lg gs (gs.length+1)) (iM as) (BH u bx.1 bx.2.1 bx.2.2.1 bx.2.2.2 lg) (BX ls.length p q 8) (BL w (e9 as)) (kJ f o X) k) (LT (go gs gs.length) (told lg gs (gs.length+1)) (iM as) (BH u bx.1 bx.2.1 bx.2.2.1 bx.2.2.2 lg) (BX ls.length p q 8) (BL w (e9 as)) (kJ f o X) k)→oW (n+6) 1086 none [(A5 ls o X f k u lg).av]=some (.val (.bytes (WR (LT (go gs gs.length) (told lg gs (gs.length+1)) (iM as) (BH u bx.1 bx.2.1 bx.2.2.1 bx.2.2.2 lg) (BX ls.length p q 8) (BL w (e9 as)) (kJ f o X) k) pp ee)),none)→R):R:=by
 refine(UL (n:=n) i9).elim fun rs h=> ?_
 obtain⟨rfl,h⟩:=h
 rw[length_map]at hn
 have CE:∀g∈rs.map (·.2.1),g.length≤1000:=fun g hg=>(mem_map.mp hg).elim fun r y=>y.2▸(h r y.1).1.2.1
 have aby:A2 qP (rs.map (·.1)) (rs.map (·.2.1)):=.of_map fun r y=>(h r y).1.1
 have CB:(rs.map (·.2.1)).length≤8:=by rw[length_map];exact hn
 have wg:=amH (n:=n+2) (lg:=lg) CE CB
 rw[map_map]at wg
 have K5:=le_trans (qR CE _ (le_refl _)) (le_trans (mul_le_mul_left 1003 CB) (by decide:1003*8≤100000))
 have htl:(told lg (rs.map (·.2.1)) ((rs.map (·.2.1)).length+1)).length≤100000:=by
  rw[pU];exact le_trans (Nat.mul_le_mul (show pR lg≤4 by cases lg<;>decide) (succ_le_succ CB)) (by decide)
 refine(amF (n:=n+2) (rs.map (·.1)) i9).elim fun bx KY=>(Cr (n:=n+4) (rs.map fun r=>r.2.2.1)).elim fun p hp=>(Cr (n:=n+4) (rs.map fun r=>r.2.2.2)).elim fun q hq=>(Cr (n:=n+4) (rs.map fun r=>(fu r.1).1)).elim fun w hw=> ?_
 rw[map_map]at KY hp hq hw
 have Lf:=Ng has
 have tb:=Pu (tgM hk) (E6 hk) (Iv (h:=BH u bx.1 bx.2.1 bx.2.2.1 bx.2.2.2 lg) (x:=BX (rs.map (·.1)).length p q 8) (e:=BL w (e9 as)) hk K5 htl (le_trans Lf.1 (by decide)) (show 54≤100000 by decide) (show 32≤100000 by decide) (show 36≤100000 by decide) (le_trans (Xb hf ho hX) (by decide)))
 refine(amL (n:=n) tb (pS (AM hk .head (by decide))) (show 12≤54 by decide)).elim fun pp z=>z.elim fun ee hwt=>kk _ bx p q w pp ee aby CE tb ?_
 refine(UJ (n:=n) hk).elim fun KV Lc=> ?_
 have hm:AV.lst (rs.map fun r=>.tup [.int (fu r.1).1,.int (fu r.1).2])=yJ as:=by
  show _=AV.lst ((fJ as).map _)
  rw[←ub,map_map,map_map];rfl
 have e:AV.lst ((rs.map (·.1)).map aM.v)=.lst (rs.map fun r=>r.1.v):=congrArg AV.lst map_map
 refine(congrArg (fun z=>oW (n+6) 1086 none [.inst 1069 [(dg,z),(dm,.aq (lE o X)),(dY,.lst [.tup [.int 3,.int 1,.int f]]),(bC,gk k),(bA,.int u),(bL,.bool lg),(bg,.tup [.int 8,.int (-2),.int 1])]]) e).trans ?_
 exact UM hn (fun r y=>(h r y).1.2.2) (fun r y=>(h r y).2) wg (hm▸mt1 (n:=n+2) has) KY (amI (n:=n+2)) hp hq (Eq.mp (congrArg (fun c:Nat=>oW (n+5) 500 none [.int c,.int p,.int q,.int 8]=some (.val (.bytes (BX (rs.map (·.1)).length p q 8)),none)) (length_map _)) (amK (n:=n+2))) hw (amJ (n:=n+2)) (W6 hf ho hX) (W7 hf ho hX) Lc.2 ((congrArg (fun z=>oW (n+5) 245 none [z]) (Lc.1 _ _ _ _ _ _ _)).symm.trans hwt)
theorem T8:back A (LT g l m h x e c k)=LT g l m (ha A .head h) x e c k:=by
 have e1:(fun t=>(t,ha A t (ct g l m h x e c k t)))=fun t=>(t,ct g l m (ha A .head h) x e c k t):=funext fun t=>by cases t<;>rfl
 exact(map_map ..).trans (congrArg (fun f=>List.map f (tL k)) e1)
abbrev fj(T:AV)(H:AC)(c:Int)(gs:List (List UInt8))(S M P:AC):AC:=.inst 1173 [(bE,T),(bq,H.av),(bg,(p8 c).av),(ck,(iW gs).av),(d7,S.av),(dZ,M.av),(bC,P.av)]
theorem OY:lW 0 bE a kn st 1173 []=kn (st.set 0 (.own (.inst 1173 [(bE,a)]))):=id rfl
theorem OZ:lW 0 bq b kn st 1173 [(bE,a)]=kn (st.set 0 (.own (.inst 1173 [(bE,a),(bq,b)]))):=id rfl
theorem O0:lW 0 bg c kn st 1173 [(bE,a),(bq,b)]=kn (st.set 0 (.own (.inst 1173 [(bE,a),(bq,b),(bg,c)]))):=id rfl
theorem O2:lW 0 ck d kn st 1173 [(bE,a),(bq,b),(bg,c)]=kn (st.set 0 (.own (.inst 1173 [(bE,a),(bq,b),(bg,c),(ck,d)]))):=id rfl
theorem O3:lW 0 d7 e kn st 1173 [(bE,a),(bq,b),(bg,c),(ck,d)]=kn (st.set 0 (.own (.inst 1173 [(bE,a),(bq,b),(bg,c),(ck,d),(d7,e)]))):=id rfl
theorem O4:lW 0 dZ f kn st 1173 [(bE,a),(bq,b),(bg,c),(ck,d),(d7,e)]=kn (st.set 0 (.own (.inst 1173 [(bE,a),(bq,b),(bg,c),(ck,d),(d7,e),(dZ,f)]))):=id rfl
theorem O5:lW 0 bC g kn st 1173 [(bE,a),(bq,b),(bg,c),(ck,d),(d7,e),(dZ,f)]=kn (st.set 0 (.own (.inst 1173 [(bE,a),(bq,b),(bg,c),(ck,d),(d7,e),(dZ,f),(bC,g)]))):=id rfl
theorem FU:aQ ag.T (.inst 1173 ((bE,a)::r)) bE=some a:=id rfl
theorem FV:aQ ag.T (.inst 1173 ((bE,a)::(bq,b)::r)) bq=some b:=id rfl
theorem at2:aQ ag.T (.inst 1173 ((bE,a)::(bq,b)::(bg,c)::r)) bg=some c:=id rfl
theorem aaq{n:Nat}{f:Tag→List UInt8}{L:TL}{W:List UInt8}{u c:Int}
  (rt:oW (n+6) 210 none [.bytes W]=some (.fresh (.inst 171 [(cu,.aq (enc (bv L)))]),none)) (tt:∀t∈t7,oW (n+6) 168 none [cP L,.str t.s]=some (.val (.bytes (f t)),none))
  (rh:oW (n+6) 479 none [.bytes (f .head)]=some (.fresh (d9 u box lg fl st),none)) (rl:oW (n+6) 535 none [.bytes (f .nP)]=some (.fresh (p8 c),none)) (rx:oW (n+6) 493 none [.bytes (f .n8)]=some (.val (.int gs.length),none))
  (OH:oW (n+6) 669 none [.bytes (f .mN),.bool lg,.int gs.length]=some (.fresh (.lst (eW gs (gs.length+1))),none)) (hg:f .mz=go gs gs.length) (rc:oW (n+6) 386 none [.bytes (f .ml)]=some (.fresh S,none)) (rm:oW (n+6) 953 none [.bytes (f .mC),.int c,.int gs.length]=some (.fresh M,none))
  (rk:(oW (n+6) 161 none [cP L,.str gp]=some (.val (.bool false),none)∧P=ke 0)∨(oW (n+6) 161 none [cP L,.str gp]=some (.val (.bool true),none)∧oW (n+6) 168 none [cP L,.str gp]=some (.val (.bytes (f .kU)),none)∧oW (n+6) 1005 none [.bytes (f .kU)]=some (.fresh P,none))):
  oW (n+8) 1173 none [.bytes W]=some (.fresh (fj (cP L) (d9 u box lg fl st) c gs S M P),none):=by
 have e1:oW (n+6) 168 none [cP L,.str bq]=_:=tt .head (by decide)
 have e2:oW (n+6) 168 none [cP L,.str pK]=_:=tt .nP (by decide)
 have e3:oW (n+6) 168 none [cP L,.str oj]=_:=tt .n8 (by decide)
 have e4:oW (n+6) 168 none [cP L,.str lR]=_:=tt .mN (by decide)
 have e5:oW (n+6) 168 none [cP L,.str lP]=_:=tt .mz (by decide)
 have e6:oW (n+6) 168 none [cP L,.str rV]=_:=tt .ml (by decide)
 have e7:oW (n+6) 168 none [cP L,.str lQ]=_:=tt .mC (by decide)
 rw[hg]at e5
 refine Wj (i:=1107) rfl rfl ?_
 exists Ja,F7,[.own (.inst 1173 []),.val (.bytes W),.no,.no]
 refine rk.elim (fun h=> ?_) fun h=> ?_
 ·simp![OY,OZ,O0,O2,O3,O4,O5,FU,FV,at2,rt,e1,rh,e2,rl,e3,rx,e4,OH,e5,KL,e6,rc,e7,rm,h.1,kn0]
  rw[h.2];rfl
 ·simp![OY,OZ,O0,O2,O3,O4,O5,FU,FV,at2,rt,e1,rh,e2,rl,e3,rx,e4,OH,e5,KL,e6,rc,e7,rm,h.1,h.2.1,h.2.2]
  rfl
theorem aap{R:Prop}{n}{gs:List (List UInt8)}{as:List Int}{o X f:Int}{u:Int}{lg:Bool}{bx:Bx}{p q w pp ee:Int}(hg:∀g∈gs,g.length≤1000)(hn:gs.length≤8)(hna:gs.length=(fJ as).length)(has:as∈nc)
  (hf:f=4∨f=12) (ho:o=1∨o=2) (hX:X=67∨X=97∨X=40000) (hk:k=0∨k=1∨k=2) (hu:16≤u∧u≤16384)
  (tb:TB (MT (go gs gs.length) (told lg gs (gs.length+1)) (iM as) (BH u bx.1 bx.2.1 bx.2.2.1 bx.2.2.2 lg) (BX gs.length p q 8) (BL w (e9 as)) (kJ f o X) k) (LT (go gs gs.length) (told lg gs (gs.length+1)) (iM as) (BH u bx.1 bx.2.1 bx.2.2.1 bx.2.2.2 lg) (BX gs.length p q 8) (BL w (e9 as)) (kJ f o X) k)) (kk:∀T box fl st,oW (n+8) 1173 none [.bytes (WR (LT (go gs gs.length) (told lg gs (gs.length+1)) (iM as) (BH u bx.1 bx.2.1 bx.2.2.1 bx.2.2.2 lg) (BX gs.length p q 8) (BL w (e9 as)) (kJ f o X) k) pp ee)]=some (.fresh (fj T (d9 u box lg fl st) (e9 as) gs (jZ f o X) (gN as) (ke k)),none)→R):R:=by
 have l (t:Tag) (ht:t∈t7):=tb.len _ (pS (AM hk t ht))
 refine(aja (n:=n+2) tb (pS (AM hk .head (by decide))) (fun b hb=>by rw[(amf hb).2];exact(by decide:12≤54)) pp ee).elim fun A h=> ?_
 have rt:=h.2
 rw[T8]at rt
 have hA:=h.1
 refine(Qo (n:=n+3) (u:=u) (a:=bx.1) (b:=bx.2.1) (c:=bx.2.2.1) (d:=bx.2.2.2) (lg:=lg) hA hu).elim fun box h=>h.elim fun fl h=>h.elim fun st rh=> ?_
 have Lf:=Ng has
 have rm:=mt2 (n:=n+2) has
 rw[←hna]at rm
 have AL:=Pu (E6 hk) (E6 hk) (Iv (k:=k) (g:=go gs gs.length) (l:=told lg gs (gs.length+1)) (m:=iM as) (h:=ha A .head (BH u bx.1 bx.2.1 bx.2.2.1 bx.2.2.2 lg)) (x:=BX gs.length p q 8) (e:=BL w (e9 as)) (c:=kJ f o X) hk (l .mz (by decide)) (l .mN (by decide)) (l .mC (by decide)) (le_trans (le_of_eq (xO (t:=.head) (b:=BH u bx.1 bx.2.1 bx.2.2.1 bx.2.2.2 lg) hA fun _=>(by decide:12≤54))) (by decide:54≤100000)) (by decide:32≤100000) (by decide:36≤100000) (l .ml (by decide)))
 refine kk _ box fl st (aaq (f:=ct (go gs gs.length) (told lg gs (gs.length+1)) (iM as) (ha A .head (BH u bx.1 bx.2.1 bx.2.2.1 bx.2.2.2 lg)) (BX gs.length p q 8) (BL w (e9 as)) (kJ f o X) k) rt (fun t ht=>sz AL (n:=n+5) (pS (AM hk t ht))) rh (ai6 (n:=n+3) (by omega)) (Qq (n:=n+4) (by omega)) (ai7 (n:=n+3) hg hn) rfl (W8 (n:=n) hf ho hX) rm ?_)
 refine hk.elim (fun e=>.inl ?_) fun mA=>.inr ?_
 ·subst e
  exact⟨abc AL (n:=n+5) (t:=.kU) (E8.symm▸(by decide:Tag.kU∉tL 0)),rfl⟩
 ·have hm:Tag.kU∈tL k:=by rcases mA with rfl|rfl<;>decide
  exact⟨KS AL (n:=n+5) (pS hm),sz AL (n:=n+5) (pS hm),kn2 (n:=n) mA⟩
theorem afY{R:Prop}{n}{ls:List aM}{as:List Int}{o X f u:Int}{lg:Bool}(i9:∀l∈ls,l.ok)(hn:ls.length≤8)(has:as∈nc)(ub:ls.map fu=fJ as)(hf:f=4∨f=12)(ho:o=1∨o=2)(hX:X=67∨X=97∨X=40000)(hk:k=0∨k=1∨k=2)(hu:16≤u∧u≤16384)
  (kk:∀gs T box fl st W,A2 qP ls gs→(∀g∈gs,g.length≤1000)→oW (n+11) 1086 none [(A5 ls o X f k u lg).av]=some (.val (.bytes W),none)→oW (n+11) 1173 none [.bytes W]=some (.fresh (fj T (d9 u box lg fl st) (e9 as) gs (jZ f o X) (gN as) (ke k)),none)→R):R:=
 UK (n:=n+5) (u:=u) (lg:=lg) i9 hn has ub hf ho hX hk fun gs bx p q w pp ee h1 h2 tb rb=>by
  have e:=h1.length
  rw[e]at tb rb
  exact aap (n:=n+3) h2 (e▸hn) (e.symm.trans (length_map fu▸congrArg List.length ub)) has hf ho hX hk hu tb fun T box fl st rf=>kk gs T box fl st _ h1 h2 rb rf
theorem ad3(k):bw ag.T (ke k).av oq=some 986:=rfl
section
theorem JC:oW (n+2) 1121 none [(fj T (d9 u box lg fl st) c gs S M P).av]=some (.val (.int gs.length),none):=by
 have:=KA (n:=n) (gs:=gs)
 rw[eQ]at this
 exists I8,F5,[.val (fj T (d9 u box lg fl st) c gs S M P).av]
 simp![this]
theorem ZP:oW (n+1) 1114 none [(fj T (d9 u box lg fl st) c gs S M P).av]=some (.val (.int u),none):=by
 exists Je,Gb,[.val (fj T (d9 u box lg fl st) c gs S M P).av]
 simp![]
theorem JK(h:oW n 846 none [(iW gs).av,.int i]=some (.fresh r,none)):oW (n+1) 1135 none [(fj T (d9 u box lg fl st) c gs S M P).av,.int i]=some (.fresh r,none):=by
 rw[eQ]at h
 exists Jc,F9,[.val (fj T (d9 u box lg fl st) c gs S M P).av,.val (.int i)]
 simp![h]
theorem D1:oW (n+1) 846 none [g,.int i]=oW (n+1) 846 none [g,.int i,.tup []]:=by
 refine Eq.trans (fM (d:=tP) (st:=[.val g,.val (.int i),.val (.tup []),.no,.no,.no,.no,.no,.no,.no]) rfl rfl rfl) (Eq.symm ?_)
 exact fM rfl rfl rfl
theorem ZA(hf:f=4∨f=12)(ho:o=1∨o=2)(hX:X=67∨X=97∨X=40000)(hx:x∈lu)(hg:(gs.length:Int)=o+2):oW (n+4) 1128 none [(fj T (d9 u box lg fl st) c gs (jZ f o X) M P).av,.int x]=some (.val (.int (GL o X x)),none):=by
 have h1:=W9 hf ho hX
 have h2:=Xa (n:=n) hf ho hX hx
 obtain⟨-,h4,h5⟩:=Iu ho hX hx
 have h6:=JC (n:=n+1) (T:=T) (u:=u) (box:=box) (lg:=lg) (fl:=fl) (st:=st) (c:=c) (gs:=gs) (S:=jZ f o X) (M:=M) (P:=P)
 simp only[eQ]at h6
 exists I9,F6,[.val (fj T (d9 u box lg fl st) c gs (jZ f o X) M P).av,.val (.int x),.no]
 simp![h1,h2,h6]
theorem Ju{as:List Int}(h:as∈nc){i:Nat}(hi:(fJ as)[i]? =some (a,b)):oW (n+2) 1149 none [(fj T (d9 u box lg fl st) c gs S (gN as) P).av,.int i]=some (.val (.int a),none)∧oW (n+2) 1156 none [(fj T (d9 u box lg fl st) c gs S (gN as) P).av,.int i]=some (.val (.int b),none):=by
 obtain⟨h1,h2⟩:=mt3 h (n:=n) hi
 obtain⟨h3,h4⟩:=mt5 h
 constructor
 ·exists I6,F3,[.val (fj T (d9 u box lg fl st) c gs S (gN as) P).av,.val (.int i)]
  simp![h3,h1]
 ·exists I7,F4,[.val (fj T (d9 u box lg fl st) c gs S (gN as) P).av,.val (.int i)]
  simp![h4,h2]
theorem ZD(hk:k=0∨k=1∨k=2)(h:c'∈[((0:Int),(1:Int)),(1,2),(2,1)]):oW (n+2) 1163 none [(fj T (d9 u box lg fl st) c gs S M (ke k)).av,.int c'.1,.int c'.2]=some (.val (.int (q9 k c'.1)),none):=by
 have h1:=(Mn (n:=n) hk h).1
 exists Jb,F8,[.val (fj T (d9 u box lg fl st) c gs S M (ke k)).av,.val (.int c'.1),.val (.int c'.2)]
 simp![ad3,h1]
theorem ZM(h:oW (n+5) 846 none [(iW gs).av,.int i]=some (.fresh (eg cs b),none))(hc:∀c∈cs,2≤c.length)(hl:cs.flatten.length≤500)(hn:cs.length≤50):
  ∃ds,A2 oN cs ds∧(allR ds).length≤5000∧oW (n+7) 1142 none [(fj T (d9 u box lg fl st) c gs S M P).av,.int i]=some (.val (.lst ((allR ds).map Row.v)),none):=by
 refine i3 (akB (n:=n) (b:=b) hc hl hn) fun ds h1 h2 h3=> ?_
 have h4:=JK (T:=T) (u:=u) (box:=box) (lg:=lg) (fl:=fl) (st:=st) (c:=c) (S:=S) (M:=M) (P:=P) h
 refine⟨ds,h1,h2,?_⟩
 simp only[eQ]at h3 h4
 exists Jd,Ga,[.val (fj T (d9 u box lg fl st) c gs S M P).av,.val (.int i)]
 simp![h4,h3]
theorem ae7:oW (n+1) 521 none [(p8 c).av]=some (.val (.tup [.int 8,.int (-2),.int 1,.int c]),none):=oR (by kernel_rfl)
end
theorem Yz:∀(n) (p:Pt),eS (n+2) (bo p) (bo p)=some true:=fun n p=>by
 show some ((p.1==p.1)&&((p.2.1==p.2.1)&&((p.2.2==p.2.2)&&true)))=_
 simp
theorem YB{α:Type}{f:α→AV}(h:∀a,eS n (f a) (f a)=some true)(l:List α):j0 (eS n) (l.map f) (l.map f)=some true:=by
 induction l with
 |nil=>rfl
 |cons a l ih=>
  show aw (eS n (f a) (f a)) (fun x=>aw (j0 (eS n) (l.map f) (l.map f)) fun y=>some (x&&y))=_
  rw[h,ih];rfl
theorem IW{α:Type}{f:α→AV}(h:∀a,eS n (f a) (f a)=some true)(l:List α):eS (n+1) (.lst (l.map f)) (.lst (l.map f))=some true:=by
 show sw ((l.map f).length==(l.map f).length) (j0 (eS n) (l.map f) (l.map f)) (some false)=_
 rw[beq_self_eq_true,YB h];rfl
theorem agk(cs:List (List Pt)):bh .ne (bl cs) (bl cs)=some false:=by
 show aw (eS 8 (.lst (cs.map aY)) (.lst (cs.map aY))) (fun x=>some (!x))=_
 rw[IW (n:=7) (f:=aY) (fun c=>IW (n:=6) (f:=bo) (fun p=>Yz 4 p) c) cs];rfl
theorem Nm(a b):bh .ne (.tup [.int a,.int b]) (.tup [.int a,.int b])=some false:=by
 show some (!((a==a)&&((b==b)&&true)))=_
 simp
theorem agl(a b c d e):bh .ne (.tup [.int a,.int b,.tup [.int c,.int d,.int e]]) (.tup [.int a,.int b,.tup [.int c,.int d,.int e]])=some false:=by
 show some (!((a==a)&&((b==b)&&(((c==c)&&((d==d)&&((e==e)&&true)))&&true))))=_
 simp
theorem ne_int(a):bh .ne (.int a) (.int a)=some false:=by rw[HZ];simp
theorem YS(h:c9 acc (.int x)=true):xo r acc x k y st=r (dh acc (.int x) y) k st:=by
 show jX _ (c9 acc (.int x))=_
 rw[h];rfl
abbrev Ou:=List (List Pt)×Nat
def jd(t:Ou):AV:=(eg t.1 (replicate t.2 0)).av
def opts(x y:Int):Prop:=x∈[0,-128,127,300]∧y∈[0,5,-129]
theorem ND(h:opts x y):oG x∧oG y:=⟨(by decide:∀x∈[(0:Int),-128,127,300],-300≤x∧x≤300) x h.1,(by decide:∀x∈[(0:Int),5,-129],-300≤x∧x≤300) y h.2⟩
theorem ak9(h0:0≤r)(h1:r<3):∃k,(k=0∨k=1∨k=2)∧lY (.lst [.tup [.int 1,.int 2,.int (-40)],.tup [.int 0,.int 1,.int 7]]) none (some r)=some (gk k):=by
 have:r=0∨r=1∨r=2:=by lia
 rcases this with rfl|rfl|rfl
 ·exact⟨0,.inl rfl,rfl⟩
 ·exact⟨1,.inr (.inl rfl),rfl⟩
 ·exact⟨2,.inr (.inr rfl),rfl⟩
theorem XS(hX:X=67∨X=97∨X=40000):dh [(.int 32,.int 0),(.int 65,.int 1),(.int 66,.int o)] (.int X) (.int (o+1))=lE o X:=by
 rcases hX with rfl|rfl|rfl<;>rfl
theorem VO.good(h:VO cs)(hk:k≤2):Good cs k∧cs.flatten≠[]:=by
 have hl:cs.flatten.length≤8:=by
  have:∀cs:List (List Pt),(∀c∈cs,2≤c.length∧c.length≤4)→cs.flatten.length≤4*cs.length:=fun cs=>by
   induction cs with
   |nil=>intro _;simp
   |cons c cs ih=>
    intro h
    have h1:=(h c (by simp)).2
    have h2:=ih (fun d hd=>h d (by simp[hd]))
    rw[flatten_cons,length_append,length_cons];lia
  have h2:=this cs h.c
  have:=h.n1
  lia
 have hn:cs≠[]:=fun e=>by have:=h.n0;rw[e]at this;simp at this
 have iI:∀c∈cs,c≠[]:=fun c hc e=>by have:=(h.c c hc).1;rw[e]at this;simp at this
 refine⟨⟨iI,hn,by lia,by have:=h.n1;lia,by lia,fun p hp=>Bl (k:=1600) (j:=9000) (by decide) (h.b p hp)⟩,fun e=> ?_⟩
 match cs,hn with
 |c::cs,_=>
  have:=(h.c c (by simp)).1
  rw[flatten_cons,List.append_eq_nil_iff]at e
  rw[e.1]at this;simp at this
def GF(n:Nat)(gs:List (List UInt8))(i:Nat)(C:Option (List (List Pt)))(l:aM):Prop:=∃cs ib,oW (n+7) 846 none [(iW gs).av,.int i]=some (.fresh (eg cs ib),none)∧C=some cs∧∀a c k,l=.out a c k→ib=replicate k 0
section
variable {ts:List (Int×Ou)} {o x0 y0 x1 y1:Int}
theorem MA{j:Nat}{q:Int×Ou}(h:ts[j]? =some q):(fw ts o x0 y0 x1 y1)[j+1]? =some (aM.out q.1 q.2.1 q.2.2):=by
 rw[fw,cons_append,getElem?_cons_succ,getElem?_append_left (by rw[length_map];exact(List.getElem?_eq_some_iff.mp h).1),getElem?_map,h];rfl
theorem Mz:(fw ts o x0 y0 x1 y1)[ts.length+1]? =some (aM.cmp o x0 y0 x1 y1):=by
 rw[fw,cons_append,getElem?_cons_succ,getElem?_append_right (le_of_eq (length_map _)),length_map,sub_self];rfl
theorem ae8{C:Nat→aM→Prop}(h0:C 0 .nul)(h1:∀j q,ts[j]? =some q→C (j+1) (.out q.1 q.2.1 q.2.2))(h2:C (ts.length+1) (.cmp o x0 y0 x1 y1)):∀i l,(fw ts o x0 y0 x1 y1)[i]? =some l→C i l:=fun i l hi=>by
 cases i with
 |zero=>cases hi;exact h0
 |succ j=>
  rcases Nat.lt_trichotomy j ts.length with hj|hj|hj
  ·have hq:=getElem?_eq_getElem hj
   cases Option.some.inj (hi.symm.trans (MA hq));exact h1 j _ hq
  ·subst hj
   cases Option.some.inj (hi.symm.trans Mz);exact h2
  ·rw[fw,cons_append,getElem?_cons_succ,getElem?_eq_none (by rw[length_append,length_map];exact hj)]at hi
   cases hi
end
theorem aaY{n gs}{j:Nat}{t:Ou}{g:List UInt8}{a:Int}(hg:gs[j+1]? =some g)(hs:Simp g t.1 t.2)(hv:Good t.1 t.2):GF n gs (j+1) (some t.1) (.out a t.1 t.2):=
 ⟨t.1,replicate t.2 0,by rw[show n+7=(n+6)+1 from rfl,D1];exact D2 (n:=n+1) hg hs hv rfl (succ_pos 7),rfl,fun a c k e=>by cases e;rfl⟩
theorem aaZ{n}{gs:List (List UInt8)}{ts:List (Int×List (List Pt)×Nat)}{os:List Ou}{x0 y0 x1 y1:Int}{t1 tL:Ou}{tr tp:List Ou}(eU:ts.map (·.2)=os)(hJ:∀t∈os,VO t.1∧t.2≤2)(KN:os.length≤2)
  (h1:os=t1::tr) (hL:os=tp++[tL]) (pd:A2 qP (fw ts (os.length:Int) x0 y0 x1 y1) gs) (m0:opts x0 y0) (m1:opts x1 y1):
  ∀(i:Nat) (l:aM),(fw ts (os.length:Int) x0 y0 x1 y1)[i]? =some l→GF n gs i ([]::os.map (·.1)++[dN x0 y0 t1.1++dN x1 y1 tL.1])[i]? l:=by
 have dB:ts.length=os.length:=by rw[←eU,length_map]
 have nM:∀(j:Nat) (q:Int×Ou),ts[j]? =some q→os[j]? =some q.2:=fun j q h=>by rw[←eU,getElem?_map,h];rfl
 have CZ:∀(j:Nat) (t:Ou),os[j]? =some t→∃g,gs[j+1]? =some g∧Simp g t.1 t.2∧Good t.1 t.2:=fun j t hj=>by
  have hv:=hJ t (mem_of_getElem? hj)
  rw[←eU,getElem?_map,map_eq_some_iff]at hj
  exact hj.elim fun q hq=>(pd.get _ _ (MA hq.1)).elim fun g h=>⟨g,h.1,hq.2▸h.2,(hv.1.good hv.2).1⟩
 refine ae8 ?_ (fun j q hq=> ?_) ?_
 ·refine(pd.get 0 _ rfl).elim fun g h=>⟨[],[],?_,rfl,fun a c k e=>nomatch e⟩
  have hs:g=[]:=h.2
  rw[show n+7=(n+6)+1 from rfl,D1];exact aha (n:=n+1) (hs▸h.1)
 ·have ho:=nM j q hq
  have hj:=(List.getElem?_eq_some_iff.mp ho).1
  rw[cons_append,getElem?_cons_succ,getElem?_append_left (by rw[length_map];exact hj),getElem?_map,ho]
  exact(CZ j q.2 ho).elim fun g h=>aaY h.1 h.2.1 h.2.2
 ·rw[cons_append,getElem?_cons_succ,getElem?_append_right (by rw[length_map,dB];exact le_refl _),length_map,dB,sub_self]
  have hc:=pd.get _ _ Mz
  rw[dB]at hc
  have Ll:os.length=tp.length+1:=by rw[hL,length_append];rfl
  have oL:os[tp.length]? =some tL:=by rw[hL,getElem?_append_right (le_refl _),sub_self];rfl
  have j9:1≤os.length:=Ll▸succ_pos _
  refine hc.elim fun g hg=>(CZ 0 t1 (by rw[h1];rfl)).elim fun g1 k1=>(CZ tp.length tL oL).elim fun g2 k2=>⟨_,[],?_,rfl,fun a c k e=>nomatch e⟩
  have hs:g=iV (os.length:Int) x0 y0 x1 y1:=hg.2
  have k3:=k2.1
  rw[←Ll]at k3
  have q0:=ND m0
  have q1:=ND m1
  rw[show n+7=(n+6)+1 from rfl,D1]
  exact ag8 (n:=n) (hs▸hg.1) k1.1 k3 k1.2.1 k2.2.1 k1.2.2 k2.2.2 (by lia) (by lia) (by lia) q0.1 q0.2 q1.1 q1.2
theorem aeR(l:aM):(∃a cs k,l=.out a cs k∧aQ ag.T l.v bH=some (eg cs (replicate k 0)).av)∨((∀a cs k,l≠.out a cs k)∧aQ ag.T l.v bH=some .none):=by
 cases l with
 |nul=>exact .inr ⟨fun _ _ _ e=>(nomatch e),rfl⟩
 |out a cs k=>exact .inl ⟨a,cs,k,rfl,rfl⟩
 |cmp=>exact .inr ⟨fun _ _ _ e=>(nomatch e),rfl⟩
theorem Bw{γ δ:Type}{f:AV→List AV→St→Option (List AV×St)}{mk:Int→Int→Slot→St}{w:δ→AV}{v:γ→AV}{Q:δ→γ→Prop}{R:Prop}(us:List δ)(a b:Int)(s:Slot)(hb:dQ b)(hl:us.length≤1000)(hs:∀u∈us,∀a b s acc,dQ b→acc.length<16777216→∀{R:Prop},(∀t a' b' s',Q u t→dQ b'→f (w u) acc (mk a b s)=some (acc++[v t],mk a' b' s')→R)→R)
  (kk:∀ts a' b' s',A2 Q us ts→dQ b'→dS f (us.map w) [] (mk a b s)=some (ts.map v,mk a' b' s')→R):R:=by
 suffices h:∀(acc:List AV) a b s,dQ b→acc.length+us.length≤16777216→∀{R:Prop},(∀ts a' b' s',A2 Q us ts→dQ b'→dS f (us.map w) acc (mk a b s)=some (acc++ts.map v,mk a' b' s')→R)→R from h [] a b s hb (by rw[length_nil,zero_add];exact le_trans hl (by decide)) kk
 clear hl hb kk
 induction us with
 |nil=>exact fun acc a b s hb _ _ kk=>kk [] a b s .nil hb (by rw[map_nil,map_nil,append_nil];rfl)
 |cons u us ih=>
  intro acc a b s hb hl R kk
  exact hs u (.head _) a b s acc hb (lt_of_lt_of_le (lt_add_of_pos_right (succ_pos _)) hl) fun t a1 b1 s1 h1 h2 h3=>
   ih (fun u hu=>hs u (.tail _ hu)) (acc++[v t]) a1 b1 s1 h2 (by rw[length_append];exact le_trans (le_of_eq (succ_add_eq_add_succ ..)) hl) fun ts a2 b2 s2 k1 k2 k3=>
    kk (t::ts) a2 b2 s2 (.cons h1 k1) k2 (by rw[map_cons,nv h3,k3,append_assoc];rfl)
def xl(i:Nat):MS:=dc (dr gY i)
def dT(n i:Nat)(st:St):Option (Res×Option AC):=jx (oW (n+11)) (dr gY i) (rC none) (lp none) st
theorem seg(h:dr gY i=.cons (xl i) (dr gY (i+1))):dT n i=i7 (oW (n+11)) (xl i) (dT n (i+1)) (lp none):=funext fun st=>by
 unfold dT
 rw[h];exact PN
theorem aeb{n}(l:List Int)(hl:l.length≤1000)(kk:∀(os:List Ou) (a b:Int),dQ b→(os.length=1∨os.length=2)→(∀t∈os,VO t.1∧t.2≤2)→dT n 2 [.val (.lst (l.map .int)),.own (Src a b),.val (.lst (os.map jd)),.no,.no,.no,.no,.no,.no,.no,.no,.no,.no,.no,.no,.no,.no,.no,.no,.no,.no]=R):dT n 0 [.val (.lst (l.map .int)),.no,.no,.no,.no,.no,.no,.no,.no,.no,.no,.no,.no,.no,.no,.no,.no,.no,.no,.no,.no]=R:=by
 refine Y4 (ahN (n:=n+10) hl) fun a0 b0 hb0 r0=> ?_
 refine oA (n:=n+10) (a:=a0) (top:=2) hb0 (by decide) fun r1 a1 b1 i8 qT nK t1=> ?_
 refine(eq_ofNat_of_zero_le qT).elim fun r h=> ?_
 subst h
 have nK:r<2:=ofNat_lt.mp nK
 refine Bw (f:=gL (.one 21) (fL ag.T (oW (n+11)) .no) (ev ag.T (oW (n+11)) (.cz vc 1210 1 .nil))) (mk:=fun a b s=>[.val (.lst (l.map .int)),.own (Src a b),.no,.no,.no,.no,.no,.no,.no,.no,.no,.no,.no,.no,.no,.no,.no,.no,.no,.no,.no,s]) (w:=fun i:Nat=>.int i) (v:=jd) (Q:=fun _ t=>VO t.1∧t.2≤2) (List.range (1+r)) a1 b1 .no i8 (by rw[length_range];exact le_trans (add_le_add_left (le_of_lt nK) 1) (by decide)) (fun u _ a b s acc hb fP _ kp=>
  (ag9 (n:=n+7) (a:=a) hb).elim fun cs h=>h.elim fun k h=>h.elim fun a' h=>h.elim fun b' h=>kp (cs,k) a' b' (.val (.int u)) ⟨h.2.1,h.2.2.1⟩ h.1 (by
   simp![h.2.2.2]
   rfl)) fun os a2 b2 s ho jA e=> ?_
 have j9:=ho.length
 rw[length_range]at j9
 refine Eq.trans ?_ (kk os a2 b2 jA ((Nat.lt_or_eq_of_le (le_of_lt_succ nK)).imp (fun q=>j9.symm.trans (congrArg (1+ ·) (Nat.lt_one_iff.mp q))) fun q=>j9.symm.trans (congrArg (1+ ·) q)) (fun t ht=>(ho.mem t ht).elim fun _ h=>h.2))
 rw[seg (i:=0) rfl,seg (i:=1) rfl]
 dsimp only[xl,dr,dc,dq,gY]
 have e2:(1:Int)+(r:Int)=((1+r:Nat):Int):=rfl
 simp![r0,t1,e2,Er,toNat_natCast,e]
theorem aec{n}{L OS:AV}{a b:Int}(hb:dQ b)(kk:∀(x0 y0 x1 y1 a' b':Int),dQ b'→opts x0 y0→opts x1 y1→dT n 3 [.val L,(.own (Src a' b')),.val OS,.val (.lst [.tup [.int x0,.int y0],.tup [.int x1,.int y1]]),.no,.no,.no,.no,.no,.no,.no,.no,.no,.no,.no,.no,.no,.no,.no,.no,.no]=R):dT n 2 [.val L,.own (Src a b),.val OS,.no,.no,.no,.no,.no,.no,.no,.no,.no,.no,.no,.no,.no,.no,.no,.no,.no,.no]=R:=by
 refine Bw (f:=gL (.one 21) (fL ag.T (oW (n+11)) .no) (ev ag.T (oW (n+11)) (.tup (.cons (.cz jf 1198 1 (.cons (.lst (.cons (.con (.int 0)) (.cons (.neg (.con (.int 128))) (.cons (.con (.int 127)) (.cons (.con (.int 300)) .nil))))) .nil)) (.cons (.cz jf 1198 1 (.cons (.lst (.cons (.con (.int 0)) (.cons (.con (.int 5)) (.cons (.neg (.con (.int 129))) .nil)))) .nil)) .nil))))) (mk:=fun a b s=>[.val L,.own (Src a b),.val OS,.no,.no,.no,.no,.no,.no,.no,.no,.no,.no,.no,.no,.no,.no,.no,.no,.no,.no,s]) (w:=fun i:Nat=>.int i) (v:=fun m:Int×Int=>.tup [.int m.1,.int m.2]) (Q:=fun _ m=>opts m.1 m.2) [0,1] a b .no hb (by decide) (fun u _ a b s acc hb fP _ kp=>by
  refine oe (n:=n+9) (a:=a) [0,-128,127,300] hb (by decide) fun x0 a1 b1 hx i8 r1=> ?_
  refine oe (n:=n+9) (a:=a1) [0,5,-129] i8 (by decide) fun y0 a2 b2 hy jA r2=> ?_
  exact kp (x0,y0) a2 b2 (.val (.int u)) ⟨hx,hy⟩ jA (by
   simp only[map_cons,map_nil]at r1 r2
   simp![r1,r2])) fun ms a2 b2 s hm jA e=> ?_
 cases hm with|cons m0 hm=>cases hm with|cons m1 hm=>cases hm with|nil=>
 refine Eq.trans ?_ (kk _ _ _ _ a2 b2 jA m0 m1)
 rw[seg (i:=2) rfl]
 dsimp only[xl,dr,dc,dq,gY]
 simp![show ij 0 2 1=[.int 0,.int 1]by kernel_rfl]
 exact congrArg (cn _) e
theorem O9:bt (.lst [a,b]) (.int 0)=some a:=rfl
theorem Pa:bt (.lst [a,b]) (.int 1)=some b:=rfl
theorem pP:bt (.tup [a,b]) (.int 0)=some a:=rfl
theorem aj:bt (.tup [a,b]) (.int 1)=some b:=rfl
theorem aed(ho:aW .len [OS]=some (.int o)):dT n 3 [s0,s1,.val OS,.val (.lst [.tup [.int x0,.int y0],.tup [.int x1,.int y1]]),.no,.no,.no,.no,.no,.no,.no,.no,.no,.no,.no,.no,.no,.no,.no,.no,.no]=dT n 4 [s0,s1,.val OS,.val (.lst [.tup [.int x0,.int y0],.tup [.int x1,.int y1]]),.val (.lst [(eN 1 x0 y0).av,(eN o x1 y1).av]),.no,.no,.no,.no,.no,.no,.no,.no,.no,.no,.no,.no,.no,.no,.no,.no]:=by
 rw[seg (i:=3) rfl]
 dsimp only[xl,dr,dc,dq,gY]
 simp![O9,Pa,pP,aj,ahg,ho]
theorem A2.snd{os:List Ou}{ts:List (Int×Ou)}{P:Int→Prop}(h:A2 (fun u t=>t.2=u∧P t.1) os ts):ts.map (·.2)=os∧∀t∈ts,P t.1:=by
 induction h with
 |nil=>exact⟨rfl,fun _ h=>nomatch h⟩
 |cons a _ ih=>exact⟨by rw[map_cons,a.1,ih.1],fun t ht=>(mem_cons.mp ht).elim (fun e=>e▸a.2) (ih.2 t)⟩
theorem aee{n}{L M:AV}{os:List Ou}{a b x0 y0 x1 y1 o:Int}(hb:dQ b)(hl:os.length≤2)(kk:∀(ts:List (Int×Ou)) (a' b':Int),dQ b'→(ts.map (·.2)=os∧∀t∈ts,t.1∈[500,0,65535])→dT n 6 [.val L,(.own (Src a' b')),.val (.lst (os.map jd)),.val M,.val (.lst [(eN 1 x0 y0).av,(eN o x1 y1).av]),.own (.lst ((fw ts o x0 y0 x1 y1).map aM.v)),.no,.no,.no,.no,.no,.no,.no,.no,.no,.no,.no,.no,.no,.no,.no]=R):dT n 4 [.val L,.own (Src a b),.val (.lst (os.map jd)),.val M,.val (.lst [(eN 1 x0 y0).av,(eN o x1 y1).av]),.no,.no,.no,.no,.no,.no,.no,.no,.no,.no,.no,.no,.no,.no,.no,.no]=R:=by
 refine Bw (f:=gL (.one 21) (fL ag.T (oW (n+11)) .no) (ev ag.T (oW (n+11)) (.call pF 1045 (.cons (.cz jf 1198 1 (.cons (.lst (.cons (.con (.int 500)) (.cons (.con (.int 0)) (.cons (.con (.int 65535)) .nil)))) .nil)) (.cons (.neg (.con (.int 3))) (.cons (.var 21) .nil)))))) (mk:=fun a b s=>[.val L,.own (Src a b),.val (.lst (os.map jd)),.val M,.val (.lst [(eN 1 x0 y0).av,(eN o x1 y1).av]),.no,.no,.no,.no,.no,.no,.no,.no,.no,.no,.no,.no,.no,.no,.no,.no,s]) (w:=jd) (v:=fun t:Int×Ou=>(aM.out t.1 t.2.1 t.2.2).v) (Q:=fun u t=>t.2=u∧t.1∈[500,0,65535]) os a b .no hb (by lia) (fun u _ a b s acc hb fP _ kp=>by
  refine oe (n:=n+9) (a:=a) [500,0,65535] hb (by decide) fun v a1 b1 hv i8 r1=> ?_
  exact kp (v,u) a1 b1 (.val (jd u)) ⟨rfl,hv⟩ i8 (by
   simp only[map_cons,map_nil]at r1
   simp![r1,aex]
   rfl)) fun ts a2 b2 s ht jA e=> ?_
 refine Eq.trans ?_ (kk ts a2 b2 jA ht.snd)
 have dE:=ht.length
 simp only[eQ]at e
 rw[seg (i:=4) rfl,seg (i:=5) rfl]
 dsimp only[xl,dr,dc,dq,gY]
 simp![aew,aey,dR,e,length_map]
 simp only[fw,map_append,map_cons,map_nil,map_map,cons_append]
 rfl
theorem aef{n}{L:AV}{s1 s4 s5:Slot}{os:List Ou}{t1 tL:Ou}{tr tp:List Ou}{x0 y0 x1 y1:Int}(h1:os=t1::tr)(hL:os=tp++[tL])(hl:os.length≤2)(v1:VO t1.1)(vL:VO tL.1):dT n 6 [.val L,s1,.val (.lst (os.map jd)),.val (.lst [.tup [.int x0,.int y0],.tup [.int x1,.int y1]]),s4,s5,.no,.no,.no,.no,.no,.no,.no,.no,.no,.no,.no,.no,.no,.no,.no]=dT n 9 [.val L,s1,.val (.lst (os.map jd)),.val (.lst [.tup [.int x0,.int y0],.tup [.int x1,.int y1]]),s4,s5,.own (.lst (([]::os.map (·.1)++[dN x0 y0 t1.1++dN x1 y1 tL.1]).map bl)),.val (.lst ((dN x0 y0 t1.1).map aY)),.no,.no,.no,.no,.no,.no,.no,.no,.no,.no,.no,.no,.no]:=by
 obtain⟨s,e⟩:=qz (f:=gL (.one 21) (fL ag.T (oW (n+11)) .no) (ev ag.T (oW (n+11)) (.attr (.var 21) cD))) (xs:=os.map jd) rfl (fun s=>[.val L,s1,.val (.lst (os.map jd)),.val (.lst [.tup [.int x0,.int y0],.tup [.int x1,.int y1]]),s4,s5,.no,.no,.no,.no,.no,.no,.no,.no,.no,.no,.no,.no,.no,.no,.no,s]) (os.map fun t=>bl t.1) .no rfl (by simp) (by simp;lia) (fun i x y acc s hx hy fP=>by
  refine i3 (kX hx) fun t ht eu _=> ?_
  subst eu
  rw[getElem?_map,ht]at hy
  cases hy
  have:aQ ag.T (jd t) cD=some (bl t.1):=rfl
  exact⟨.val (jd t),by simp![this]⟩)
 have c1:bt (.lst (AV.lst []::os.map fun t=>bl t.1)) (.int 1)=some (bl t1.1):=kB (by lia) (by rw[h1];rfl)
 have cL:bt (.lst (AV.lst []::os.map fun t=>bl t.1)) (.int (-1))=some (bl tL.1):=by
  rw[hL,map_append,←cons_append];exact sq
 have w1:=Mw (n:=n+10) (cs:=t1.1) (x:=x0) (y:=y0) (by have:=v1.n1;lia) (fun c hc=>by have:=(v1.c c hc).2;lia)
 have wL:=Mw (n:=n+10) (cs:=tL.1) (x:=x1) (y:=y1) (by have:=vL.n1;lia) (fun c hc=>by have:=(vL.c c hc).2;lia)
 have m1:(dN x0 y0 t1.1).length≤2:=by rw[dN,length_map];exact v1.n1
 have mL:(dN x1 y1 tL.1).length≤2:=by rw[dN,length_map];exact vL.n1
 rw[seg (i:=6) rfl,seg (i:=7) rfl,seg (i:=8) rfl]
 dsimp only[xl,dr,dc,dq,gY]
 simp![e,c1,cL,O9,Pa,pP,aj,w1,wL,dR,length_map]
 rw[map_append,map_cons,map_map,←map_append];rfl
structure Dr (X f u:Int) (k:Nat):Prop where
 X:X=67∨X=97∨X=40000
 f:f=4∨f=12
 u:16≤u∧u≤16384
 k:k=0∨k=1∨k=2
theorem aeg(hb:dQ b)(ho:aW .len [OS]=some (.int o))(kk:∀(X f u:Int) (k:Nat) (lg:Bool) (a' b':Int),Dr X f u k→dT n 14 [.val L,(.own (Src a' b')),.val OS,s3,s4,.val (.lst LS),s6,s7,.val (.aq (lE o X)),.val (gk k),.val (.int f),.val (.int u),.val (.bool lg),(.val (.inst 1069 [(dg,.lst LS),(dm,.aq (lE o X)),(dY,.lst [.tup [.int 3,.int 1,.int f]]),(bC,gk k),(bA,.int u),(bL,.bool lg),(bg,.tup [.int 8,.int (-2),.int 1])])),.no,.no,.no,.no,.no,.no,.no]=R):dT n 9 [.val L,.own (Src a b),.val OS,s3,s4,.own (.lst LS),s6,s7,.no,.no,.no,.no,.no,.no,.no,.no,.no,.no,.no,.no,.no]=R:=by
 refine oe (n:=n+9) (a:=a) [67,97,40000] hb (by decide) fun X a5 b5 hX hb5 rX=> ?_
 refine oA (n:=n+10) (a:=a5) (top:=3) hb5 (by decide) fun rp a6 b6 hb6 hp0 C0 rP=> ?_
 refine oe (n:=n+9) (a:=a6) [4,12] hb6 (by decide) fun f a7 b7 hf hb7 rF=> ?_
 refine oe (n:=n+9) (a:=a7) [16,1000] hb7 (by decide) fun u a8 b8 hu j6 rU=> ?_
 refine oA (n:=n+10) (a:=a8) (top:=2) j6 (by decide) fun lr a9 b9 hb9 _ _ rL=> ?_
 refine qN (ak9 hp0 C0) fun k hk rK=> ?_
 simp only[mem_cons,List.not_mem_nil,or_false]at hX hf hu
 simp only[map_cons,map_nil]at rX rF rU
 refine Eq.trans ?_ (kk X f u k (decide (lr=0)) a9 b9 ⟨hX,hf,hu.elim (fun e=>by rw[e];decide) fun e=>by rw[e];decide,hk⟩)
 have hdc:=XS (o:=o) hX
 have abd:AV.lst ((lO k).map fun p=>.tup [.int p.1,.int p.2.1,.int p.2.2])=gk k:=rfl
 rw[seg (i:=9) rfl,seg (i:=10) rfl,seg (i:=11) rfl,seg (i:=12) rfl,seg (i:=13) rfl]
 dsimp only[xl,dr,dc,dq,gY]
 simp![ho,YS,qF,qE,rX,hdc,rP,rK,agV,abd,rF,rU,rL,ahL]
structure FW (n:Nat) (F:AV) (N u:Int):Prop where
 cm:bw ag.T F cJ=some 1121
 c:oW (n+11) 1121 none [F]=some (.val (.int N),none)
 um:bw ag.T F bA=some 1114
 u:oW (n+11) 1114 none [F]=some (.val (.int u),none)
 r:∃R c,aQ ag.T F bg=some R∧bw ag.T R iT=some 521∧oW (n+11) 521 none [R]=some (.val (.tup [.int 8,.int (-2),.int 1,.int c]),none)
theorem sl3:lY (.tup [.int 8,.int (-2),.int 1,.int c]) none (some 3)=some (.tup [.int 8,.int (-2),.int 1]):=rfl
theorem aeh(hu:aQ ag.T P bA=some (.int u))(rb:oW (n+11) 1086 none [P]=some (.val (.bytes W),none))(rf:oW (n+11) 1173 none [.bytes W]=some (.fresh F,none))(h:FW n F.av LS.length u):dT n 14 [s0,s1,s2,s3,s4,.val (.lst LS),s6,s7,s8,s9,fa,fg,fh,.val P,.no,.no,.no,.no,.no,.no,.no]=dT n 16 [s0,s1,s2,s3,s4,.val (.lst LS),s6,s7,s8,s9,fa,fg,fh,.val P,.val F.av,.no,.no,.no,.no,.no,.no]:=by
 obtain⟨R,c,r1,r2,r3⟩:=h.r
 rw[seg (i:=14) rfl,seg (i:=15) rfl]
 dsimp only[xl,dr,dc,dq,gY]
 simp![rb,rf,h.cm,h.c,h.um,h.u,r1,r2,r3,sl3,hu,agl]
theorem aei{n}{s0 s1 s2 s3 s4 s5 s6 s7 s9 fa fg fh gR:Slot}{D:List (AV×AV)}{F:AV}{g:Int→Int}(hm:bw ag.T F cO=some 1128)(h:∀c∈lu,oW (n+11) 1128 none [F,.int c]=some (.val (.int (g c)),none)∧aW .get [.aq D,.int c,.int 0]=some (.int (g c)))(kk:∀iq,dT n 17 [s0,s1,s2,s3,s4,s5,s6,s7,.val (.aq D),s9,fa,fg,fh,gR,.val F,iq,.no,.no,.no,.no,.no]=R):dT n 16 [s0,s1,s2,s3,s4,s5,s6,s7,.val (.aq D),s9,fa,fg,fh,gR,.val F,.no,.no,.no,.no,.no,.no]=R:=by
 obtain⟨s,e⟩:=tX (b:=eG (.one 15) (bj ag.T (oW (n+11)) 1000 (.cons (.iff (.cmp .ne (.aO (.var 14) cO (.cons (.var 15) .nil)) (.bm .get (.var 8) (.cons (.var 15) (.cons (.con (.int 0)) .nil)))) (.cons .stop .nil) .nil) .nil))) (xs:=lu.map .int) rfl (fun _ s=>[s0,s1,s2,s3,s4,s5,s6,s7,.val (.aq D),s9,fa,fg,fh,gR,.val F,s,.no,.no,.no,.no,.no]) .no rfl (fun i x s hx=>by
  refine i3 (kX hx) fun c hc eu _=> ?_
  subst eu
  obtain⟨g1,g2⟩:=h c (mem_of_getElem? hc)
  exact⟨.val (.int c),by simp![hm,g1,g2,ne_int]⟩)
 refine Eq.trans ?_ (kk s)
 rw[seg (i:=16) rfl]
 dsimp only[xl,dr,dc,dq,gY]
 simp![]
 exact congrArg (cn _) e
structure FG (n:Nat) (F:AV) (i:Nat) (lk:aM) (cs:List (List Pt)) (ib:List UInt8):Prop where
 o:oW (n+11) 1135 none [F,.int i]=some (.fresh (eg cs ib),none)
 a:oW (n+11) 1149 none [F,.int i]=some (.val (.int (fu lk).1),none)
 b:oW (n+11) 1156 none [F,.int i]=some (.val (.int (fu lk).2),none)
 l:cs.length≤4
 n:∀a c k,lk=.out a c k→ib=replicate k 0
structure FM (F:AV):Prop where
 o:bw ag.T F bH=some 1135
 a:bw ag.T F cN=some 1149
 b:bw ag.T F cT=some 1156
theorem aek{n}{s0 s1 s2 s3 s4 s7 s8 s9 fa fg fh gR iq:Slot}{F:AV}{ls:List aM}{CF:List (List (List Pt))}{t16 vS:Slot}(hm:FM F)(h:FG n F i lk cs ib)(hl:ls[i]? =some lk)(hc:CF[i]? =some cs)(hi:ls.length≤8):bj ag.T (oW (n+11)) 1000 (.cons (.asg 17 false (.aO (.var 14) bH (.cons (.var 16) .nil)))
 (.cons (.iff (.cmp .ne (.comp 1 (.one 21) (.attr (.var 17) cD) .no (.blt .list (.cons (.var 21) .nil))) (.sub (.var 6) (.var 16))) (.cons .stop .nil) .nil)
 (.cons (.iff (.cv true (.cons (.cmp .hN (.attr (.sub (.var 5) (.var 16)) bH) (.con .none)) (.cons (.cmp .ne (.attr (.var 17) dz) (.attr (.attr (.sub (.var 5) (.var 16)) bH) dz)) .nil))) (.cons .stop .nil) .nil)
 (.cons (.iff (.cmp .ne (.tup (.cons (.aO (.var 14) cN (.cons (.var 16) .nil)) (.cons (.aO (.var 14) cT (.cons (.var 16) .nil)) .nil))) (.tup (.cons (.attr (.sub (.var 5) (.var 16)) cN) (.cons (.attr (.sub (.var 5) (.var 16)) cT) .nil)))) (.cons .stop .nil) .nil) .nil)))) [s0,s1,s2,s3,s4,.val (.lst (ls.map aM.v)),.own (.lst (CF.map bl)),s7,s8,s9,fa,fg,fh,gR,.val F,iq,.val (.int i),vS,.no,.no,.no]=some (.next,[s0,s1,s2,s3,s4,.val (.lst (ls.map aM.v)),.own (.lst (CF.map bl)),s7,s8,s9,fa,fg,fh,gR,.val F,iq,.val (.int i),.val (eg cs ib).av,.no,.no,.no]):=by
 have g2:bt (.lst (CF.map bl)) (.int (i:Nat))=some (bl cs):=kB (by lia) (by rw[toNat_natCast,getElem?_map,hc];rfl)
 have g3:bt (.lst (ls.map aM.v)) (.int (i:Nat))=some lk.v:=kB (by lia) (by rw[toNat_natCast,getElem?_map,hl];rfl)
 obtain⟨s,e⟩:=qz (f:=gL (.one 21) (fL ag.T (oW (n+11)) .no) (ev ag.T (oW (n+11)) (.blt .list (.cons (.var 21) .nil)))) (xs:=cs.map aY) rfl (fun s=>[s0,s1,s2,s3,s4,.val (.lst (ls.map aM.v)),.own (.lst (CF.map bl)),s7,s8,s9,fa,fg,fh,gR,.val F,iq,.val (.int i),.val (eg cs ib).av,.no,.no,.no,s]) (cs.map aY) .no rfl rfl (by rw[length_map];have:=h.l;lia) (fun i x y acc s hx hy fP=>by
  refine i3 (kX hx) fun c hp eu _=> ?_
  subst eu
  rw[getElem?_map,hp]at hy
  cases hy
  have i9:aW .list [aY c]=some (aY c):=rfl
  have Cw:AV.lst (c.map bo)=aY c:=rfl
  exact⟨.val (aY c),by simp![i9,yQ,Cw]⟩)
 rw[eQ]at e
 have Lh:bh .ne (.lst (cs.map aY)) (bl cs)=some false:=agk cs
 have go:=h.o
 refine(aeR lk).elim (fun h1=> ?_) fun h1=> ?_
 ·obtain⟨a,gf,k',h0,h1⟩:=h1
  have hnb:decide (ib≠replicate k' 0)=false:=by rw[h.n _ _ _ h0];simp
  rw[eQ]at h1
  simp![hm.o,hm.a,hm.b,go,q4,e,g2,Lh,g3,h1,Dh,hnb,h.a,h.b,yE,Dz,Nm]
 ·simp![hm.o,hm.a,hm.b,go,q4,e,g2,Lh,g3,h1.2,mJ,h.a,h.b,yE,Dz,Nm]
theorem aej{n}{s0 s1 s2 s3 s4 s7 s8 s9 fa fg fh gR iq:Slot}{F:AV}{ls:List aM}{CF:List (List (List Pt))}(hm:FM F)(h:∀i lk,ls[i]? =some lk→∃cs ib,CF[i]? =some cs∧FG n F i lk cs ib)(hi:ls.length≤8)(kk:∀ou ox,dT n 18 [s0,s1,s2,s3,s4,.val (.lst (ls.map aM.v)),.own (.lst (CF.map bl)),s7,s8,s9,fa,fg,fh,gR,.val F,iq,ou,ox,.no,.no,.no]=R):dT n 17 [s0,s1,s2,s3,s4,.val (.lst (ls.map aM.v)),.own (.lst (CF.map bl)),s7,s8,s9,fa,fg,fh,gR,.val F,iq,.no,.no,.no,.no,.no]=R:=by
 obtain⟨s,e⟩:=tX (b:=eG (.one 16) (bj ag.T (oW (n+11)) 1000 (.cons (.asg 17 false (.aO (.var 14) bH (.cons (.var 16) .nil)))
 (.cons (.iff (.cmp .ne (.comp 1 (.one 21) (.attr (.var 17) cD) .no (.blt .list (.cons (.var 21) .nil))) (.sub (.var 6) (.var 16))) (.cons .stop .nil) .nil)
 (.cons (.iff (.cv true (.cons (.cmp .hN (.attr (.sub (.var 5) (.var 16)) bH) (.con .none)) (.cons (.cmp .ne (.attr (.var 17) dz) (.attr (.attr (.sub (.var 5) (.var 16)) bH) dz)) .nil))) (.cons .stop .nil) .nil)
 (.cons (.iff (.cmp .ne (.tup (.cons (.aO (.var 14) cN (.cons (.var 16) .nil)) (.cons (.aO (.var 14) cT (.cons (.var 16) .nil)) .nil))) (.tup (.cons (.attr (.sub (.var 5) (.var 16)) cN) (.cons (.attr (.sub (.var 5) (.var 16)) cT) .nil)))) (.cons .stop .nil) .nil) .nil)))))) (xs:=ij 0 (ls.length:Nat) 1) rfl (fun _ (s:Slot×Slot)=>[s0,s1,s2,s3,s4,.val (.lst (ls.map aM.v)),.own (.lst (CF.map bl)),s7,s8,s9,fa,fg,fh,gR,.val F,iq,s.1,s.2,.no,.no,.no]) (.no,.no) rfl (fun i x s hx=>by
  obtain⟨rfl,nQ⟩:=vC hx
  obtain⟨cs,ib,hc,hg⟩:=h i _ (getElem?_eq_getElem nQ)
  exact⟨(.val (.int i),.val (eg cs ib).av),aek (t16:=.no) hm hg (getElem?_eq_getElem nQ) hc hi⟩)
 refine Eq.trans ?_ (kk s.1 s.2)
 rw[seg (i:=17) rfl]
 dsimp only[xl,dr,dc,dq,gY]
 simp![length_map]
 exact congrArg (cn _) e
theorem acr:gJ (gk k)=some ((lO k).map fun p=>.tup [.int p.1,.int p.2.1,.int p.2.2]):=rfl
theorem XQ(hk:k=0∨k=1∨k=2):aW .dict [.lst ((lO k).map fun p=>.tup [.tup [.int p.1,.int p.2.1],.int p.2.2])]=some (.aq (oV k)):=by rcases hk with rfl|rfl|rfl<;>kernel_rfl
theorem ahT(hk:k=0∨k=1∨k=2):(lO k).length≤2:=by rcases hk with rfl|rfl|rfl<;>decide
theorem ael{CF:List (List (List Pt))}(hk:k=0∨k=1∨k=2):dT n 18 [s0,s1,s2,s3,s4,s5,.own (.lst (CF.map bl)),s7,s8,.val (gk k),fa,fg,fh,gR,.val F,iq,ou,ox,.no,.no,.no]=dT n 19 [s0,s1,s2,s3,s4,s5,.own (.lst (CF.map bl)),s7,s8,.val (gk k),fa,fg,fh,gR,.val F,iq,ou,ox,.val (.aq (oV k)),.no,.no]:=by
 obtain⟨s,e⟩:=qz (f:=gL (.many [21,22,23]) (fL ag.T (oW (n+11)) .no) (ev ag.T (oW (n+11)) (.tup (.cons (.tup (.cons (.var 21) (.cons (.var 22) .nil))) (.cons (.var 23) .nil))))) (xs:=(lO k).map fun p=>.tup [.int p.1,.int p.2.1,.int p.2.2]) rfl (fun s:Slot×Slot×Slot=>[s0,s1,s2,s3,s4,s5,.own (.lst (CF.map bl)),s7,s8,.val (gk k),fa,fg,fh,gR,.val F,iq,ou,ox,.no,.no,.no,s.1,s.2.1,s.2.2]) ((lO k).map fun p=>.tup [.tup [.int p.1,.int p.2.1],.int p.2.2]) (.no,.no,.no) rfl (by rw[length_map,length_map]) (by rw[length_map];have:=ahT hk;lia) (fun i x y acc s hx hy fP=>by
  refine i3 (kX hx) fun c hp eu _=> ?_
  subst eu
  rw[getElem?_map,hp]at hy
  cases hy
  exact⟨(.val (.int c.1),.val (.int c.2.1),.val (.int c.2.2)),by simp![]⟩)
 rw[seg (i:=18) rfl]
 dsimp only[xl,dr,dc,dq,gY]
 simp![acr,e,XQ hk]
theorem aem{n}{s0 s1 s2 s3 s4 s5 s7 s8 fa fg fh gR iq ou ox:Slot}{CF:List (List (List Pt))}{F:AV}{c1:List (List Pt)}{g:Int→Int→Int}(hm:bw ag.T F gp=some 1163)(h:∀c∈[((0:Int),(1:Int)),(1,2),(2,1)],oW (n+11) 1163 none [F,.int c.1,.int c.2]=some (.val (.int (g c.1 c.2)),none)∧aW .get [.aq (oV k),.tup [.int c.1,.int c.2],.int 0]=some (.int (g c.1 c.2)))
  (h1:CF[1]? =some c1) (he:oW (n+11) 1220 none [F,.int 1,bl c1]=some (.val (.bool true),none)):dT n 19 [s0,s1,s2,s3,s4,s5,.own (.lst (CF.map bl)),s7,s8,.val (gk k),fa,fg,fh,gR,.val F,iq,ou,ox,.val (.aq (oV k)),.no,.no]=some (.val (.bool true),none):=by
 obtain⟨s,e⟩:=tX (b:=eG (.many [19,20]) (bj ag.T (oW (n+11)) 1000 (.cons (.iff (.cmp .ne (.aO (.var 14) gp (.cons (.var 19) (.cons (.var 20) .nil))) (.bm .get (.var 18) (.cons (.tup (.cons (.var 19) (.cons (.var 20) .nil))) (.cons (.con (.int 0)) .nil)))) (.cons .stop .nil) .nil) .nil))) (xs:=[((0:Int),(1:Int)),(1,2),(2,1)].map fun p=>AV.tup [.int p.1,.int p.2]) rfl (fun _ (s:Slot×Slot)=>[s0,s1,s2,s3,s4,s5,.own (.lst (CF.map bl)),s7,s8,.val (gk k),fa,fg,fh,gR,.val F,iq,ou,ox,.val (.aq (oV k)),s.1,s.2]) (.no,.no) rfl (fun i x s hx=>by
  refine i3 (kX hx) fun c hc eu _=> ?_
  subst eu
  obtain⟨g1,g2⟩:=h c (mem_of_getElem? hc)
  exact⟨(.val (.int c.1),.val (.int c.2)),by simp![hm,g1,g2,ne_int]⟩)
 have g9:bt (.lst (CF.map bl)) (.int 1)=some (bl c1):=kB (by lia) (by rw[show(1:Int).toNat=1 from rfl,getElem?_map,h1];rfl)
 rw[seg (i:=19) rfl,seg (i:=20) rfl]
 dsimp only[xl,dr,dc,dq,gY]
 simp![]
 refine Eq.trans (congrArg (cn _) e) ?_
 simp![g9,he]
theorem afc{ts:List (Int×Ou)}{os:List Ou}{o x0 y0 x1 y1:Int}(eU:ts.map (·.2)=os)(hJ:∀t∈os,VO t.1∧t.2≤2):∀x∈fw ts o x0 y0 x1 y1,x.ok:=fun x hx=>
 (mem_cons.mp hx).elim (fun e=>e▸trivial) fun hx=>(mem_append.mp hx).elim (fun hx=>(mem_map.mp hx).elim fun t ht=>ht.2▸(hJ t.2 (eU▸mem_map_of_mem ht.1)).1.good (hJ t.2 (eU▸mem_map_of_mem ht.1)).2) fun hx=>mem_singleton.mp hx▸trivial
theorem afa{ts:List (Int×Ou)}{o x0 y0 x1 y1:Int}:(fw ts o x0 y0 x1 y1).length=ts.length+2:=by
 rw[fw,length_append,length_cons,length_map];rfl
structure LF (n:Nat) (F:AV) (N u:Int) (g:Int→Int) (D:List (AV×AV)) (k:Nat):Prop where
 w:FW n F N u
 m:FM F
 gm:bw ag.T F cO=some 1128
 g:∀c∈lu,oW (n+11) 1128 none [F,.int c]=some (.val (.int (g c)),none)∧aW .get [.aq D,.int c,.int 0]=some (.int (g c))
 km:bw ag.T F gp=some 1163
 k:∀c∈[((0:Int),(1:Int)),(1,2),(2,1)],oW (n+11) 1163 none [F,.int c.1,.int c.2]=some (.val (.int (q9 k c.1)),none)∧aW .get [.aq (oV k),.tup [.int c.1,.int c.2],.int 0]=some (.int (q9 k c.1))
theorem aeE{T box:AV}{u fl st c f o X:Int}{lg:Bool}{gs:List (List UInt8)}{M:AC}(hf:f=4∨f=12)(ho:o=1∨o=2)(hX:X=67∨X=97∨X=40000)(hk:k=0∨k=1∨k=2)(hg:(gs.length:Int)=o+2):LF n (fj T (d9 u box lg fl st) c gs (jZ f o X) M (ke k)).av gs.length u (GL o X) (lE o X) k:=
 ⟨⟨rfl,JC (n:=n+9),rfl,ZP (n:=n+10),_,_,rfl,rfl,ae7 (n:=n+10)⟩,⟨rfl,rfl,rfl⟩,rfl,fun c hc=>⟨ZA (n:=n+7) hf ho hX hc hg,(Iu ho hX hc).1⟩,rfl,fun c hc=>⟨ZD (n:=n+9) hk hc,(Mn (n:=n) hk hc).2⟩⟩
theorem aen{s0 s1 s2 s3 s4 s7 fa fg fh:Slot}{F:AC}{P:AV}{ls:List aM}{CF:List (List (List Pt))}{c1:List (List Pt)}(h:LF n F.av ls.length u g D k)(hu:aQ ag.T P bA=some (.int u))(rb:oW (n+11) 1086 none [P]=some (.val (.bytes W),none))(rf:oW (n+11) 1173 none [.bytes W]=some (.fresh F,none))
  (hG:∀i lk,ls[i]? =some lk→∃cs ib,CF[i]? =some cs∧FG n F.av i lk cs ib) (hi:ls.length≤8) (hk:k=0∨k=1∨k=2) (h1:CF[1]? =some c1) (he:oW (n+11) 1220 none [F.av,.int 1,bl c1]=some (.val (.bool true),none)):
  dT n 14 [s0,s1,s2,s3,s4,.val (.lst (ls.map aM.v)),.own (.lst (CF.map bl)),s7,.val (.aq D),.val (gk k),fa,fg,fh,.val P,.no,.no,.no,.no,.no,.no,.no]=some (.val (.bool true),none):=
 (aeh hu rb rf (by rw[length_map];exact h.w)).trans (aei h.gm h.g fun iq=>aej h.m hG hi fun ou ox=>(ael hk).trans (aem (g:=fun l _=>q9 k l) h.km h.k h1 he))
def AY(os:List Ou)(x0 y0 x1 y1:Int)(t1 tL:Ou):List (List (List Pt)):=[]::os.map (·.1)++[dN x0 y0 t1.1++dN x1 y1 tL.1]
theorem VA{os:List Ou}{x0 y0 x1 y1:Int}{t1 tL:Ou}(hJ:∀t∈os,VO t.1∧t.2≤2)(v1:VO t1.1)(vL:VO tL.1):∀c∈AY os x0 y0 x1 y1 t1 tL,c.length≤4:=fun c hc=>
 (mem_cons.mp hc).elim (fun e=>e▸zero_le _) fun hc=>(mem_append.mp hc).elim (fun hc=>(mem_map.mp hc).elim fun t ht=>ht.2▸le_trans (hJ t ht.1).1.n1 (by decide)) fun hc=>by
  rw[mem_singleton.mp hc,length_append,dN,dN,length_map,length_map]
  exact add_le_add v1.n1 vL.n1
theorem FA{ts:List (Int×Ou)}{o x0 y0 x1 y1:Int}{i:Nat}{lk:aM}(hi:(fw ts o x0 y0 x1 y1)[i]? =some lk):(fJ (ts.map (·.1)))[i]? =some ((fu lk).1,(fu lk).2):=by rw[←My ts o x0 y0 x1 y1,getElem?_map,hi];rfl
theorem aep{s0 s1 s2 s3 s4 s7:Slot}{os:List Ou}{ts:List (Int×Ou)}{t1 tL:Ou}{tr tp:List Ou}{x0 y0 x1 y1 X f u:Int}{k:Nat}{lg:Bool}(pf:os.length=1∨os.length=2)(hJ:∀t∈os,VO t.1∧t.2≤2)(eU:ts.map (·.2)=os∧∀t∈ts,t.1∈[500,0,65535])(nT:os=t1::tr)(qX:os=tp++[tL])(ui:opts x0 y0)(uj:opts x1 y1)(hd:Dr X f u k):
  dT n 14 [s0,s1,s2,s3,s4,.val (.lst ((fw ts os.length x0 y0 x1 y1).map aM.v)),.own (.lst ((AY os x0 y0 x1 y1 t1 tL).map bl)),s7,.val (.aq (lE os.length X)),.val (gk k),.val (.int f),.val (.int u),.val (.bool lg),.val (A5 (fw ts os.length x0 y0 x1 y1) os.length X f k u lg).av,.no,.no,.no,.no,.no,.no,.no]=some (.val (.bool true),none):=by
 have dB:ts.length=os.length:=by rw[←eU.1,length_map]
 have h2:os.length≤2:=pf.elim (fun e=>e▸by decide) le_of_eq
 have hl:(fw ts (os.length:Int) x0 y0 x1 y1).length=os.length+2:=afa.trans (congrArg (· +2) dB)
 have h8:(fw ts (os.length:Int) x0 y0 x1 y1).length≤8:=hl▸le_trans (add_le_add_right h2 2) (by decide)
 have has:ts.map (·.1)∈nc:=Sj (by rw[length_map,dB];exact pf) (fun a ha=>(mem_map.mp ha).elim fun t h=>h.2▸eU.2 t h.1)
 have Lk:(os.length:Int)=1∨(os.length:Int)=2:=pf.imp (congrArg Nat.cast) (congrArg Nat.cast)
 have v1:=hJ t1 (nT▸.head _)
 have vL:=hJ tL (qX▸mem_append_right _ (.head _))
 refine afY (n:=n) (lg:=lg) (afc eU.1 hJ) h8 has (My ..) hd.f Lk hd.X hd.k hd.u fun gs T box fl st W pd K5 rb rf=> ?_
 have hg:(gs.length:Int)=os.length+2:=congrArg Nat.cast (pd.length.symm.trans hl)
 have KI:=fun m=>aaZ (n:=m) eU.1 hJ h2 nT qX pd ui uj
 have KP:(AY os x0 y0 x1 y1 t1 tL)[1]? =some t1.1:=by rw[nT];rfl
 refine(KI (n+1) 1 _ (getElem?_eq_getElem (hl▸Nat.succ_lt_succ (succ_pos _)))).elim fun nx h=>h.elim fun ib1 h=> ?_
 cases Option.some.inj (KP.symm.trans h.2.1)
 have g1:=(v1.1.good v1.2).1.l
 refine i3 (ZM (n:=n+3) (T:=T) (u:=u) (box:=box) (lg:=lg) (fl:=fl) (st:=st) (c:=e9 (ts.map (·.1))) (S:=jZ f os.length X) (M:=gN (ts.map (·.1))) (P:=ke k) h.1 (fun c hc=>(v1.1.c c hc).1) (by omega) (le_trans v1.1.n1 (by decide))) fun ds d1 d2 d3=> ?_
 exact aen (pd.length▸aeE hd.f Lk hd.X hd.k hg) rfl rb rf (fun i lk hi=>(KI (n+3) i lk hi).elim fun cs z=>z.elim fun ib z=>⟨cs,ib,z.2.1,JK z.1,(Ju (n:=n+9) has (FA hi)).1,(Ju (n:=n+9) has (FA hi)).2,VA hJ v1.1 vL.1 cs (mem_of_getElem? z.2.1),z.2.2⟩) h8 hd.k KP (Yv d3 rfl d1 d2 (by omega))
theorem aer{n}(l:List Int)(hl:l.length≤1000):oW (n+12) 1225 none [.lst (l.map .int)]=some (.val (.bool true),none):=by
 refine(fM (d:=JH) (st:=[.val (.lst (l.map .int)),.no,.no,.no,.no,.no,.no,.no,.no,.no,.no,.no,.no,.no,.no,.no,.no,.no,.no,.no,.no]) rfl rfl rfl).trans (aeb (n:=n) l hl fun os a2 b2 jA pf hJ=> ?_)
 have h2:os.length≤2:=pf.elim (fun e=>e▸by decide) le_of_eq
 have ho:aW .len [.lst (os.map jd)]=some (.int os.length):=by rw[rd,length_map]
 refine aec jA fun x0 y0 x1 y1 a3 b3 uc ui uj=>(aed ho).trans (aee uc h2 fun ts a4 b4 Cx eU=> ?_)
 obtain⟨t1,tr,nT⟩:∃t1 tr,os=t1::tr:=by
  cases os with
  |nil=>exact absurd pf (by decide)
  |cons t r=>exact⟨t,r,rfl⟩
 obtain⟨tp,tL,qX⟩:∃tp tL,os=tp++[tL]:=⟨os.dropLast,os.getLast (by rw[nT];exact cons_ne_nil _ _),(List.dropLast_concat_getLast _).symm⟩
 exact(aef nT qX h2 (hJ t1 (nT▸.head _)).1 (hJ tL (qX▸mem_append_right _ (.head _))).1).trans (aeg Cx ho fun X f u k lg a9 b9 hd=>aep pf hJ eU nT qX ui uj hd)
end
end U
end
end Mine
theorem PySem.Challenge.cw_nu0040_01_holds : PySem.Challenge.rw_nu0040_01.Holds :=
 Mine.join fun l hl=>⟨1000,Mine.U.yO▸Mine.U.aer (n:=0) l (by omega)⟩
