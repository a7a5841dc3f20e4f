import PyProof.Rows.All
import Wide.All
import OpenK.AllK
import Wide.FinOn
import Lean
import PySem.Challenge.RW_nu0227_01
open PySem PySem.W PySem.Calls PyProof.Rows
set_option autoImplicit false
set_option Elab.async false
set_option linter.all false
set_option maxRecDepth 100000
set_option compiler.extract_closed false
set_option genSizeOf false
set_option bootstrap.genMatcherCode false
namespace Mine.Internal
noncomputable section
set_option genSizeOf false in
inductive AVal where
 |none
 |bool (b:Bool)
 |int (i:Int)
 |str (s:Str)
 |bytes (b:List UInt8)
 |tup (vs:List AVal)
 |lst (vs:List AVal)
 |lsx (vs:List AVal)
 |dS (kvs:List (Str×AVal))
 |dB (kvs:List (List UInt8×AVal))
 |rcd (vs:List AVal)
 |rng (a c:Int) (n:Nat)
 |ref (a:Addr)
 |cst (v:Value)
set_option genSizeOf false in
set_option genInjectivity false in
inductive OObj where
 |list (vs:List AVal)
 |dS (kvs:List (Str×AVal))
 |dB (kvs:List (List UInt8×AVal))
 |inst (C:Addr) (kvs:List (Str×AVal))
 |barr (b:List UInt8)
noncomputable abbrev Own :=List (Addr×OObj)
noncomputable abbrev Led :=List (Addr×Obj)
noncomputable abbrev Kept :=Addr→Obj→Prop
noncomputable abbrev clsRecord :Addr:=308
noncomputable abbrev clsIn :Addr:=180
noncomputable abbrev clsOut :Addr:=272
noncomputable abbrev clsFont :Addr:=73
noncomputable abbrev bytesHash (P:Params)(b:List UInt8):Int:=hashW P (.bytes b)
noncomputable abbrev rangeObj (a b c:Int)(t u v:Tok):Obj:={cls:= .type "range",dict:=none,data:= .fields #[.int a t,.int b u,.int c v],slots:= #[]}
noncomputable abbrev seqObj (c:String)(vs:List Value)(n:Nat):Obj:={cls:= .type c,data:= .seq vs.toArray n}
noncomputable abbrev bytearrayObj (b:List UInt8):Obj:={cls:= .type "bytearray",data:= .bytearray b.toArray}
noncomputable def recNames :List Str:= ["tag","total","begin","length","where"]
mutual
inductive VRel (P:Params) (K:Kept):AVal→Value→Prop where
 |none:VRel P K .none .none
 |bool (b:Bool):VRel P K (.bool b) (.bool b)
 |int (i:Int) (t:Tok):VRel P K (.int i) (.int i t)
 |str (s:Str) (t:Tok):VRel P K (.str s) (.str s t)
 |bytes (b:List UInt8) (t:Tok):VRel P K (.bytes b) (.bytes b.toArray t)
 |tup {a:Addr}{vs:List AVal}{cvs:List Value}{n:Nat}(hk:K a (seqObj "tuple" cvs n)) (hv:VRels P K vs cvs):VRel P K (.tup vs) (.ref a)
 |lst {a:Addr}{vs:List AVal}{cvs:List Value}{n:Nat}(hk:K a (seqObj "list" cvs n)) (hv:VRels P K vs cvs):VRel P K (.lst vs) (.ref a)
 |lsx {a:Addr}{vs:List AVal}{cvs:List Value}{n:Nat}{o:Obj}(hk:K a o) (hc:o.cls= .type "list") (hd:o.data= .seq cvs.toArray n) (hv:VRels P K vs cvs):VRel P K (.lsx vs) (.ref a)
 |dS {a:Addr}{kvs:List (Str×AVal)}{es:List DictEntry}{n:Nat}(hk:K a (dictOf es n)) (hv:ERelS P K kvs es) (hs:a≠sysModules):VRel P K (.dS kvs) (.ref a)
 |dB {a:Addr}{kvs:List (List UInt8×AVal)}{es:List DictEntry}{n:Nat}(hk:K a (dictOf es n)) (hv:ERelB P K kvs es) (hs:a≠sysModules):VRel P K (.dB kvs) (.ref a)
 |rcd {a d:Addr}{vs:List AVal}{es:List DictEntry}{n:Nat}(hk:K a (instObj clsRecord d)) (hd:K d (dictOf es n)) (hv:ERelS P K (recNames.zip vs) es) (hl:vs.length=5):VRel P K (.rcd vs) (.ref a)
 |rng {r:Addr}{a b c:Int}{t u v:Tok}{n:Nat}(hk:K r (rangeObj a b c t u v)) (hs:Builtin.Range.small a b c=true) (hn:Builtin.Range.rangeSize a b c=n):VRel P K (.rng a c n) (.ref r)
 |ref (a:Addr):VRel P K (.ref a) (.ref a)
 |cst (v:Value):VRel P K (.cst v) v
inductive VRels (P:Params) (K:Kept):List AVal→List Value→Prop where
 |nil:VRels P K [] []
 |cons {v:AVal}{cv:Value}{vs:List AVal}{cvs:List Value}(h:VRel P K v cv) (hs:VRels P K vs cvs):VRels P K (v::vs) (cv::cvs)
inductive ERelS (P:Params) (K:Kept):List (Str×AVal)→List DictEntry→Prop where
 |nil:ERelS P K [] []
 |cons {k:Str}{t:Tok}{v:AVal}{cv:Value}{kvs:List (Str×AVal)}{es:List DictEntry}(h:VRel P K v cv) (hs:ERelS P K kvs es):ERelS P K ((k,v)::kvs) (⟨PyData.keyHash P k,.str k t,cv⟩::es)
inductive ERelB (P:Params) (K:Kept):List (List UInt8×AVal)→List DictEntry→Prop where
 |nil:ERelB P K [] []
 |cons {k:List UInt8}{t:Tok}{v:AVal}{cv:Value}{kvs:List (List UInt8×AVal)}{es:List DictEntry}(h:VRel P K v cv) (hs:ERelB P K kvs es):ERelB P K ((k,v)::kvs) (⟨bytesHash P k,.bytes k.toArray t,cv⟩::es)
end
section
variable {P:Params}{K:Kept}{c:Value}{M:Value→Prop}
noncomputable def VRel.Elim (P:Params)(K:Kept)(v:AVal)(c:Value):Prop:=match v with
 | .none=> ∀M:Value→Prop,M .none→M c
 | .bool b=> ∀M:Value→Prop,M (.bool b)→M c
 | .int i=> ∀M:Value→Prop,(∀t,M (.int i t))→M c
 | .str s=> ∀M:Value→Prop,(∀t,M (.str s t))→M c
 | .bytes b=> ∀M:Value→Prop,(∀t,M (.bytes b.toArray t))→M c
 | .tup vs=> ∀M:Value→Prop,(∀a cvs n,K a (seqObj "tuple" cvs n)→VRels P K vs cvs→M (.ref a))→M c
 | .lst vs=> ∀M:Value→Prop,(∀a cvs n,K a (seqObj "list" cvs n)→VRels P K vs cvs→M (.ref a))→M c
 | .lsx vs=> ∀M:Value→Prop,(∀a cvs n o,K a o→o.cls= .type "list"→o.data= .seq cvs.toArray n→VRels P K vs cvs→M (.ref a))→M c
 | .dS kvs=> ∀M:Value→Prop,(∀a es n,K a (dictOf es n)→ERelS P K kvs es→a≠sysModules→M (.ref a))→M c
 | .dB kvs=> ∀M:Value→Prop,(∀a es n,K a (dictOf es n)→ERelB P K kvs es→a≠sysModules→M (.ref a))→M c
 | .rcd vs=> ∀M:Value→Prop,(∀a d es n,K a (instObj clsRecord d)→K d (dictOf es n)→ERelS P K (recNames.zip vs) es→vs.length=5→M (.ref a))→M c
 | .rng a d n=> ∀M:Value→Prop,(∀r b t u v,K r (rangeObj a b d t u v)→Builtin.Range.small a b d=true→Builtin.Range.rangeSize a b d=n→M (.ref r))→M c
 | .ref a=> ∀M:Value→Prop,M (.ref a)→M c
 | .cst v=> ∀M:Value→Prop,M v→M c
theorem VRel.elim {v:AVal}{c:Value}(h:VRel P K v c):VRel.Elim P K v c:=by
 cases h with
 |none=>exact fun M k=>k
 |bool b=>exact fun M k=>k
 |int i t=>exact fun M k=>k t
 |str i t=>exact fun M k=>k t
 |bytes i t=>exact fun M k=>k t
 |tup a b=>exact fun M k=>k _ _ _ a b
 |lst a b=>exact fun M k=>k _ _ _ a b
 |lsx a b c d=>exact fun M k=>k _ _ _ _ a b c d
 |dS a b c=>exact fun M k=>k _ _ _ a b c
 |dB a b c=>exact fun M k=>k _ _ _ a b c
 |rcd a b c d=>exact fun M k=>k _ _ _ _ a b c d
 |rng a b c=>exact fun M k=>k _ _ _ _ _ a b c
 |ref a=>exact fun M k=>k
 |cst v=>exact fun M k=>k
@[elab_as_elim] theorem VRel.noneE (h:VRel P K .none c)(k:M .none):M c:=h.elim M k
@[elab_as_elim] theorem VRel.boolE {b:Bool}(h:VRel P K (.bool b) c)(k:M (.bool b)):M c:=h.elim M k
@[elab_as_elim] theorem VRel.intE {i:Int}(h:VRel P K (.int i) c)(k: ∀t,M (.int i t)):M c:=h.elim M k
@[elab_as_elim] theorem VRel.strE {i:Str}(h:VRel P K (.str i) c)(k: ∀t,M (.str i t)):M c:=h.elim M k
@[elab_as_elim] theorem VRel.bytesE {i:List UInt8}(h:VRel P K (.bytes i) c)(k: ∀t,M (.bytes i.toArray t)):M c:=h.elim M k
@[elab_as_elim] theorem VRel.tupE {vs:List AVal}(h:VRel P K (.tup vs) c)(k: ∀a cvs n,K a (seqObj "tuple" cvs n)→VRels P K vs cvs→M (.ref a)):M c:=h.elim M k
@[elab_as_elim] theorem VRel.lstE {vs:List AVal}(h:VRel P K (.lst vs) c)(k: ∀a cvs n,K a (seqObj "list" cvs n)→VRels P K vs cvs→M (.ref a)):M c:=h.elim M k
@[elab_as_elim] theorem VRel.lsxE {vs:List AVal}(h:VRel P K (.lsx vs) c)(k: ∀a cvs n o,K a o→o.cls= .type "list"→o.data= .seq cvs.toArray n→VRels P K vs cvs→M (.ref a)):M c:=h.elim M k
@[elab_as_elim] theorem VRel.dSE {kvs:List (Str×AVal)}(h:VRel P K (.dS kvs) c)(k: ∀a es n,K a (dictOf es n)→ERelS P K kvs es→a≠sysModules→M (.ref a)):M c:=h.elim M k
@[elab_as_elim] theorem VRel.dBE {kvs:List (List UInt8×AVal)}(h:VRel P K (.dB kvs) c)(k: ∀a es n,K a (dictOf es n)→ERelB P K kvs es→a≠sysModules→M (.ref a)):M c:=h.elim M k
@[elab_as_elim] theorem VRel.rcdE {vs:List AVal}(h:VRel P K (.rcd vs) c)(k: ∀a d es n,K a (instObj clsRecord d)→K d (dictOf es n)→ERelS P K (recNames.zip vs) es→vs.length=5→M (.ref a)):M c:=h.elim M k
@[elab_as_elim] theorem VRel.rngE {a d:Int}{n:Nat}(h:VRel P K (.rng a d n) c)(k: ∀r b t u v,K r (rangeObj a b d t u v)→Builtin.Range.small a b d=true→Builtin.Range.rangeSize a b d=n→M (.ref r)):M c:=h.elim M k
@[elab_as_elim] theorem VRel.refE {a:Addr}(h:VRel P K (.ref a) c)(k:M (.ref a)):M c:=h.elim M k
@[elab_as_elim] theorem VRel.cstE {v:Value}(h:VRel P K (.cst v) c)(k:M v):M c:=h.elim M k
noncomputable def VRels.Elim (P:Params)(K:Kept)(vs:List AVal)(cs:List Value):Prop:=match vs with
 | []=> ∀M:List Value→Prop,M []→M cs
 |v::vs=> ∀M:List Value→Prop,(∀c r,VRel P K v c→VRels P K vs r→M (c::r))→M cs
theorem VRels.elim {vs:List AVal}{cs:List Value}(h:VRels P K vs cs):VRels.Elim P K vs cs:=by
 cases h with
 |nil=>exact fun M k=>k
 |cons a b=>exact fun M k=>k _ _ a b
@[elab_as_elim] theorem VRels.nilE {M:List Value→Prop}{cs:List Value}(h:VRels P K [] cs)(k:M []):M cs:=h.elim M k
@[elab_as_elim] theorem VRels.consE {M:List Value→Prop}{v:AVal}{vs:List AVal}{cs:List Value}(h:VRels P K (v::vs) cs)(k: ∀c r,VRel P K v c→VRels P K vs r→M (c::r)):M cs:=h.elim M k
@[elab_as_elim] theorem VRels.oneE {M:List Value→Prop}{v:AVal}{cs:List Value}(h:VRels P K [v] cs)(k: ∀c,VRel P K v c→M [c]):M cs:=h.consE fun c _ a b=>b.nilE (k c a)
@[elab_as_elim] theorem VRels.twoE {M:List Value→Prop}{v w:AVal}{cs:List Value}(h:VRels P K [v,w] cs)(k: ∀c d,VRel P K v c→VRel P K w d→M [c,d]):M cs:=h.consE fun c _ a b=>b.oneE fun d e=>k c d a e
@[elab_as_elim] theorem VRels.threeE {M:List Value→Prop}{v w u:AVal}{cs:List Value}(h:VRels P K [v,w,u] cs)(k: ∀c d e,VRel P K v c→VRel P K w d→VRel P K u e→M [c,d,e]):M cs:=h.consE fun c _ a b=>b.twoE fun d e f g=>k c d e a f g
noncomputable def ERelS.Elim (P:Params)(K:Kept)(kvs:List (Str×AVal))(es:List DictEntry):Prop:=match kvs with
 | []=> ∀M:List DictEntry→Prop,M []→M es
 |p::r=> ∀M:List DictEntry→Prop,(∀t c l,VRel P K p.2 c→ERelS P K r l→M (⟨PyData.keyHash P p.1,.str p.1 t,c⟩::l))→M es
theorem ERelS.elim {kvs:List (Str×AVal)}{es:List DictEntry}(h:ERelS P K kvs es):ERelS.Elim P K kvs es:=by
 cases h with
 |nil=>exact fun M k=>k
 |cons a b=>exact fun M k=>k _ _ _ a b
@[elab_as_elim] theorem ERelS.nilE {M:List DictEntry→Prop}{es:List DictEntry}(h:ERelS P K [] es)(k:M []):M es:=h.elim M k
@[elab_as_elim] theorem ERelS.consE {M:List DictEntry→Prop}{p:Str×AVal}{r:List (Str×AVal)}{es:List DictEntry}(h:ERelS P K (p::r) es)(k: ∀t c l,VRel P K p.2 c→ERelS P K r l→M (⟨PyData.keyHash P p.1,.str p.1 t,c⟩::l)):M es:=h.elim M k
noncomputable def ERelB.Elim (P:Params)(K:Kept)(kvs:List (List UInt8×AVal))(es:List DictEntry):Prop:=match kvs with
 | []=> ∀M:List DictEntry→Prop,M []→M es
 |p::r=> ∀M:List DictEntry→Prop,(∀t c l,VRel P K p.2 c→ERelB P K r l→M (⟨bytesHash P p.1,.bytes p.1.toArray t,c⟩::l))→M es
theorem ERelB.elim {kvs:List (List UInt8×AVal)}{es:List DictEntry}(h:ERelB P K kvs es):ERelB.Elim P K kvs es:=by
 cases h with
 |nil=>exact fun M k=>k
 |cons a b=>exact fun M k=>k _ _ _ a b
@[elab_as_elim] theorem ERelB.nilE {M:List DictEntry→Prop}{es:List DictEntry}(h:ERelB P K [] es)(k:M []):M es:=h.elim M k
@[elab_as_elim] theorem ERelB.consE {M:List DictEntry→Prop}{p:List UInt8×AVal}{r:List (List UInt8×AVal)}{es:List DictEntry}(h:ERelB P K (p::r) es)(k: ∀t c l,VRel P K p.2 c→ERelB P K r l→M (⟨bytesHash P p.1,.bytes p.1.toArray t,c⟩::l)):M es:=h.elim M k
end
section
variable {P:Params}{K K':Kept}
theorem VRel.mono (hk: ∀a o,K a o→K' a o){v:AVal}{cv:Value}(h:VRel P K v cv):VRel P K' v cv:=VRel.rec
 (motive_1:=fun v cv _=>VRel P K' v cv) (motive_2:=fun vs cvs _=>VRels P K' vs cvs) (motive_3:=fun kvs es _=>ERelS P K' kvs es) (motive_4:=fun kvs es _=>ERelB P K' kvs es)
  .none .bool .int .str .bytes (fun h _ i=> .tup (hk _ _ h) i) (fun h _ i=> .lst (hk _ _ h) i) (fun h hc hd _ i=> .lsx (hk _ _ h) hc hd i) (fun h _ hs i=> .dS (hk _ _ h) i hs) (fun h _ hs i=> .dB (hk _ _ h) i hs) (fun h hd _ hl i=> .rcd (hk _ _ h) (hk _ _ hd) i hl) (fun h hs hn=> .rng (hk _ _ h) hs hn) .ref .cst
  .nil (fun _ _ i j=> .cons i j) .nil (fun _ _ i j=> .cons i j) .nil (fun _ _ i j=> .cons i j) h
theorem VRels.mono (hk: ∀a o,K a o→K' a o){vs:List AVal}{cvs:List Value}(h:VRels P K vs cvs):VRels P K' vs cvs:=VRels.rec
 (motive_1:=fun v cv _=>VRel P K' v cv) (motive_2:=fun vs cvs _=>VRels P K' vs cvs) (motive_3:=fun kvs es _=>ERelS P K' kvs es) (motive_4:=fun kvs es _=>ERelB P K' kvs es)
  .none .bool .int .str .bytes (fun h _ i=> .tup (hk _ _ h) i) (fun h _ i=> .lst (hk _ _ h) i) (fun h hc hd _ i=> .lsx (hk _ _ h) hc hd i) (fun h _ hs i=> .dS (hk _ _ h) i hs) (fun h _ hs i=> .dB (hk _ _ h) i hs) (fun h hd _ hl i=> .rcd (hk _ _ h) (hk _ _ hd) i hl) (fun h hs hn=> .rng (hk _ _ h) hs hn) .ref .cst
  .nil (fun _ _ i j=> .cons i j) .nil (fun _ _ i j=> .cons i j) .nil (fun _ _ i j=> .cons i j) h
theorem ERelS.mono (hk: ∀a o,K a o→K' a o){vs:List (Str×AVal)}{cvs:List DictEntry}(h:ERelS P K vs cvs):ERelS P K' vs cvs:=ERelS.rec
 (motive_1:=fun v cv _=>VRel P K' v cv) (motive_2:=fun vs cvs _=>VRels P K' vs cvs) (motive_3:=fun kvs es _=>ERelS P K' kvs es) (motive_4:=fun kvs es _=>ERelB P K' kvs es)
  .none .bool .int .str .bytes (fun h _ i=> .tup (hk _ _ h) i) (fun h _ i=> .lst (hk _ _ h) i) (fun h hc hd _ i=> .lsx (hk _ _ h) hc hd i) (fun h _ hs i=> .dS (hk _ _ h) i hs) (fun h _ hs i=> .dB (hk _ _ h) i hs) (fun h hd _ hl i=> .rcd (hk _ _ h) (hk _ _ hd) i hl) (fun h hs hn=> .rng (hk _ _ h) hs hn) .ref .cst
  .nil (fun _ _ i j=> .cons i j) .nil (fun _ _ i j=> .cons i j) .nil (fun _ _ i j=> .cons i j) h
theorem ERelB.mono (hk: ∀a o,K a o→K' a o){vs:List (List UInt8×AVal)}{cvs:List DictEntry}(h:ERelB P K vs cvs):ERelB P K' vs cvs:=ERelB.rec
 (motive_1:=fun v cv _=>VRel P K' v cv) (motive_2:=fun vs cvs _=>VRels P K' vs cvs) (motive_3:=fun kvs es _=>ERelS P K' kvs es) (motive_4:=fun kvs es _=>ERelB P K' kvs es)
  .none .bool .int .str .bytes (fun h _ i=> .tup (hk _ _ h) i) (fun h _ i=> .lst (hk _ _ h) i) (fun h hc hd _ i=> .lsx (hk _ _ h) hc hd i) (fun h _ hs i=> .dS (hk _ _ h) i hs) (fun h _ hs i=> .dB (hk _ _ h) i hs) (fun h hd _ hl i=> .rcd (hk _ _ h) (hk _ _ hd) i hl) (fun h hs hn=> .rng (hk _ _ h) hs hn) .ref .cst
  .nil (fun _ _ i j=> .cons i j) .nil (fun _ _ i j=> .cons i j) .nil (fun _ _ i j=> .cons i j) h
theorem VRels.nilI {cvs:List Value}(h:VRels P K [] cvs):cvs= []:=h.nilE rfl
theorem VRels.consI {v:AVal}{vs:List AVal}{cvs:List Value}(h:VRels P K (v::vs) cvs): ∃c cs,cvs=c::cs∧VRel P K v c∧VRels P K vs cs:=h.consE fun _ _ a b=>⟨_,_,rfl,a,b⟩
theorem VRels.length {vs:List AVal}{cvs:List Value}(h:VRels P K vs cvs):cvs.length=vs.length:=by
 induction vs generalizing cvs with
 |nil=>rw [h.nilI];rfl
 |cons v vs ih=>
  obtain ⟨c,cs,rfl,_,b⟩:=h.consI
  rw [List.length_cons,List.length_cons,ih b]
theorem VRels.get {vs:List AVal}{cvs:List Value}(h:VRels P K vs cvs){i:Nat}{v:AVal}(e:vs[i]?=some v): ∃cv,cvs[i]?=some cv∧VRel P K v cv:=by
 induction vs generalizing cvs i with
 |nil=>cases e
 |cons w vs ih=>
  obtain ⟨c,cs,rfl,a,b⟩:=h.consI
  cases i with
  |zero=>cases e;exact ⟨c,rfl,a⟩
  |succ i=>exact ih b e
theorem VRels.append {vs:List AVal}{cvs:List Value}(h:VRels P K vs cvs){ws:List AVal}{cws:List Value}(h':VRels P K ws cws):VRels P K (vs++ws) (cvs++cws):=by
 induction vs generalizing cvs with
 |nil=>rw [h.nilI];exact h'
 |cons v vs ih=>
  obtain ⟨c,cs,rfl,a,b⟩:=h.consI
  exact .cons a (ih b)
end
inductive OwnRel (P:Params)(K:Kept):OObj→Addr→Led→Prop where
 |list {a:Addr}{vs:List AVal}{cvs:List Value}{n:Nat}(hv:VRels P K vs cvs):OwnRel P K (.list vs) a [(a,seqObj "list" cvs n)]
 |dS {a:Addr}{kvs:List (Str×AVal)}{es:List DictEntry}{n:Nat}(hv:ERelS P K kvs es) (hs:a≠sysModules):OwnRel P K (.dS kvs) a [(a,dictOf es n)]
 |dB {a:Addr}{kvs:List (List UInt8×AVal)}{es:List DictEntry}{n:Nat}(hv:ERelB P K kvs es) (hs:a≠sysModules):OwnRel P K (.dB kvs) a [(a,dictOf es n)]
 |inst {a d C:Addr}{kvs:List (Str×AVal)}{es:List DictEntry}{n:Nat}(hv:ERelS P K kvs es):OwnRel P K (.inst C kvs) a [(a,instObj C d),(d,dictOf es n)]
 |barr {a:Addr}{b:List UInt8}:OwnRel P K (.barr b) a [(a,bytearrayObj b)]
section
variable {P:Params}{K:Kept}{a:Addr}{l:Led}{M:Led→Prop}
noncomputable def OwnRel.Elim (P:Params)(K:Kept)(o:OObj)(a:Addr)(l:Led):Prop:=match o with
 | .list vs=> ∀M:Led→Prop,(∀cvs n,VRels P K vs cvs→M [(a,seqObj "list" cvs n)])→M l
 | .dS kvs=> ∀M:Led→Prop,(∀es n,ERelS P K kvs es→a≠sysModules→M [(a,dictOf es n)])→M l
 | .dB kvs=> ∀M:Led→Prop,(∀es n,ERelB P K kvs es→a≠sysModules→M [(a,dictOf es n)])→M l
 | .inst C kvs=> ∀M:Led→Prop,(∀d es n,ERelS P K kvs es→M [(a,instObj C d),(d,dictOf es n)])→M l
 | .barr b=> ∀M:Led→Prop,M [(a,bytearrayObj b)]→M l
theorem OwnRel.elim {o:OObj}(h:OwnRel P K o a l):OwnRel.Elim P K o a l:=by
 cases h with
 |list h=>exact fun M k=>k _ _ h
 |dS h g=>exact fun M k=>k _ _ h g
 |dB h g=>exact fun M k=>k _ _ h g
 |inst h=>exact fun M k=>k _ _ _ h
 |barr=>exact fun M k=>k
@[elab_as_elim] theorem OwnRel.listE {vs:List AVal}(h:OwnRel P K (.list vs) a l)(k: ∀cvs n,VRels P K vs cvs→M [(a,seqObj "list" cvs n)]):M l:=h.elim M k
@[elab_as_elim] theorem OwnRel.dSE {kvs:List (Str×AVal)}(h:OwnRel P K (.dS kvs) a l)(k: ∀es n,ERelS P K kvs es→a≠sysModules→M [(a,dictOf es n)]):M l:=h.elim M k
@[elab_as_elim] theorem OwnRel.dBE {kvs:List (List UInt8×AVal)}(h:OwnRel P K (.dB kvs) a l)(k: ∀es n,ERelB P K kvs es→a≠sysModules→M [(a,dictOf es n)]):M l:=h.elim M k
@[elab_as_elim] theorem OwnRel.instE {C:Addr}{kvs:List (Str×AVal)}(h:OwnRel P K (.inst C kvs) a l)(k: ∀d es n,ERelS P K kvs es→M [(a,instObj C d),(d,dictOf es n)]):M l:=h.elim M k
@[elab_as_elim] theorem OwnRel.barrE {b:List UInt8}(h:OwnRel P K (.barr b) a l)(k:M [(a,bytearrayObj b)]):M l:=h.elim M k
end
inductive Owns (P:Params)(K:Kept):Own→Led→Prop where
 |nil:Owns P K [] []
 |cons {a:Addr}{o:OObj}{l:Led}{σ:Own}{own:Led}(h:OwnRel P K o a l) (hs:Owns P K σ own):Owns P K ((a,o)::σ) (l++own)
section
variable {P:Params}{K K':Kept}
theorem OwnRel.mono (hk: ∀a o,K a o→K' a o){o:OObj}{a:Addr}{l:Led}(h:OwnRel P K o a l):OwnRel P K' o a l:=
 OwnRel.casesOn (motive:=fun o a l _=>OwnRel P K' o a l) h (fun h=> .list (h.mono hk)) (fun h g=> .dS (h.mono hk) g) (fun h g=> .dB (h.mono hk) g) (fun h=> .inst (h.mono hk)) .barr
theorem Owns.mono (hk: ∀a o,K a o→K' a o){σ:Own}{own:Led}(h:Owns P K σ own):Owns P K' σ own:=by
 induction h with
 |nil=>exact .nil
 |cons h _ ih=>exact .cons (h.mono hk) ih
theorem Owns.append {σ τ:Own}{own own':Led}(h:Owns P K σ own)(h':Owns P K τ own'):Owns P K (σ++τ) (own++own'):=by
 induction h with
 |nil=>exact h'
 |cons h _ ih=>rw [List.append_assoc];exact .cons h ih
theorem Owns.consI {a:Addr}{o:OObj}{σ:Own}{own:Led}(h:Owns P K ((a,o)::σ) own): ∃l r,own=l++r∧OwnRel P K o a l∧Owns P K σ r:=by cases h with|cons h hs=>exact ⟨_,_,rfl,h,hs⟩
theorem Owns.split {σ τ:Own}{own:Led}(h:Owns P K (σ++τ) own): ∃o1 o2,own=o1++o2∧Owns P K σ o1∧Owns P K τ o2:=by
 induction σ generalizing own with
 |nil=>exact ⟨[],own,rfl,.nil,h⟩
 |cons p σ ih=>
  obtain ⟨l,r,rfl,h1,h2⟩:=Owns.consI (a:=p.1) (o:=p.2) h
  obtain ⟨o1,o2,rfl,h3,h4⟩:=ih h2
  exact ⟨l++o1,o2,(List.append_assoc ..).symm,.cons h1 h3,h4⟩
end
structure Inv (K J:Kept)(l:Led)(L:Addr)(m:Str→Option Value)(h:Heap):Prop where
 k: ∀a o,K a o→h.get? a=some o
 j: ∀a o,J a o→h.get? a=some o
 ow: ∀p∈l,h.get? p.1=some p.2
 nodup:(l.map (·.1)).Nodup
 ok: ∀p∈l,∀o,¬K p.1 o
 oj: ∀p∈l,∀o,¬J p.1 o
 kj: ∀a o o',K a o→ ¬J a o'
 ns:h.Ns L m
 kL: ∀o,¬K L o
 jL: ∀o,¬J L o
 oL: ∀p∈l,p.1≠L
set_option genSizeOf false in
set_option genInjectivity false in
structure Gl where
 prog:Program
 w:World
 frag:Frag
 mg:Str→Option Value
 mb:Str→Option Value
structure Glo (G:Gl)(h:Heap):Prop where
 frag:G.frag.In h
 g:h.Ns mainGlobals G.mg
 b:h.Ns builtinsNs G.mb
 nolimit:h.NoLimit
 builtins: ∀x:Str,x≠ "__name__"→G.mb x=bootBuiltins x
theorem Glo.keeps {G:Gl}{h h':Heap}(x:Glo G h)(hk: ∀b o,h.get? b=some o→h'.get? b=some o):Glo G h':=
 ⟨x.frag.keeps hk,x.g.keeps hk,x.b.keeps hk,x.nolimit.keeps hk,x.builtins⟩
set_option genSizeOf false in
set_option genInjectivity false in
structure Cx where
 A:Around
 env:Env
 fenv:Env
 outer:List Env
 A₀:Around
 base:Heap
 h₀:Heap
 L:Addr
 rk:Nat
 cells:List Addr
noncomputable def VarIs (env:Env)(L:Addr)(m:Str→Option Value)(J:Kept)(x:Str)(cv:Value):Prop:=
 (x==("__debug__":Str))=false∧
 ((env.kindOf x=some .local∧((env.locals=L∧m x=some cv)∨ ∃o es ep,J env.locals o∧o.data= .dict es ep∧StrKeys es∧nsFind es x=some cv))∨
  (env.kindOf x=some .cell∧ ∃c o,env.cells.lookup x=some c∧J c o∧o.data= .cell (some cv)))
structure Sit (G:Gl)(C:Cx)(lv:List (Option AVal))(K J:Kept)(m:Str→Option Value):Prop where
 below:Below C.A₀ C.base C.outer C.h₀
 hA:C.A.frames=some (C.fenv::C.outer)
 hf:C.fenv.frame=some C.L
 hef:C.env.frame=some C.L
 hke:C.fenv.scope.kind= .function
 kind:C.env.scope.kind= .function
 hg:C.env.globals=mainGlobals
 hb:C.env.builtins=builtinsNs
 hh:C.A.handled=none
 above:C.h₀.objs.size≤C.L
 keep: ∀a o,C.h₀.get? a=some o→K a o∨J a o
 fk: ∀a o,G.frag.lookup a=some o→K a o
 glo:Glo G C.h₀
 lv: ∀(i:Nat) (x:Str) (k:NameKind) (v:AVal),C.env.scope.names[i]?=some (x,k)→lv[i]?=some (some v)→ ∃cv,VarIs C.env C.L m J x cv∧VRel G.w.params K v cv
 nd:(C.env.scope.names.map (·.1)).Nodup
 cnd: ∀x y c,C.env.cells.lookup x=some c→C.env.cells.lookup y=some c→x=y
 cc: ∀x c,C.env.kindOf x=some .cell→C.env.cells.lookup x=some c→C.env.locals=C.L→c∈C.cells
 ch: ∀c∈C.cells,C.h₀.get? c=none
 cj: ∀y c,C.env.kindOf y=some .cell→C.env.cells.lookup y=some c→ ∃o v₀,J c o∧o.data= .cell v₀
 cs: ∀c∈C.cells,∃o v₀,J c o∧o.data= .cell v₀
 guards:C.A.guards=some []
 depth:C.A.depth+4*C.rk<recursionLimit
 units:C.A.units+16*C.rk+64<cLine
theorem Sit.mono {G:Gl}{C:Cx}{lv:List (Option AVal)}{K K' J:Kept}{m:Str→Option Value}(S:Sit G C lv K J m)(hk: ∀a o,K a o→K' a o):Sit G C lv K' J m:=
 {S with keep:=fun a o e=>(S.keep a o e).imp (hk a o) id,fk:=fun a o e=>hk a o (S.fk a o e),lv:=fun i x k v h1 h2=>(S.lv i x k v h1 h2).imp fun _=>And.imp id fun b=>b.mono hk}
noncomputable def Plain (o:Obj):Prop:=(∀es ep,o.data≠ .dict es ep)∧ ∀v,o.data≠ .cell v
theorem VarIs.mapJ {env:Env}{L:Addr}{m:Str→Option Value}{J J':Kept}{y:Str}{cv:Value}(hd: ∀o es ep,o.data= .dict es ep→J env.locals o→J' env.locals o)(hc: ∀a o v,o.data= .cell v→J a o→J' a o)(h:VarIs env L m J y cv):VarIs env L m J' y cv:=
 ⟨h.1,h.2.imp (And.imp id<|Or.imp id<|Exists.imp fun _=>Exists.imp fun _=>Exists.imp fun _ q=>⟨hd _ _ _ q.2.1 q.1,q.2⟩) (And.imp id<|Exists.imp fun _=>Exists.imp fun _ q=>⟨q.1,hc _ _ _ q.2.2 q.2.1,q.2.2⟩)⟩
theorem Sit.mapJ {G:Gl}{C:Cx}{lv:List (Option AVal)}{K J J':Kept}{m:Str→Option Value}(S:Sit G C lv K J m)(keep: ∀a o,C.h₀.get? a=some o→J a o→J' a o)(hd: ∀o es ep,o.data= .dict es ep→J C.env.locals o→J' C.env.locals o)(hc: ∀a o v,o.data= .cell v→J a o→J' a o):Sit G C lv K J' m:=
 have c (c) (h: ∃o v₀,J c o∧o.data= .cell v₀): ∃o v₀,J' c o∧o.data= .cell v₀:=h.imp fun _ h=>h.imp fun _ q=>⟨hc _ _ _ q.2 q.1,q.2⟩
 {S with
  keep:=fun a o e=>(S.keep a o e).imp id (keep a o e)
  lv:=fun i y k v h1 h2=>(S.lv i y k v h1 h2).imp fun _=>And.imp (VarIs.mapJ hd hc) id
  cj:=fun y _ h1 h2=>c _ (S.cj y _ h1 h2)
  cs:=fun _ h1=>c _ (S.cs _ h1)}
theorem Sit.fr {G:Gl}{C:Cx}{lv:List (Option AVal)}{K J:Kept}{m:Str→Option Value}{l:Led}{h:Heap}(S:Sit G C lv K J m)(I:Inv K J l C.L m h):Fr C.h₀ C.L h m:=
 ⟨I.ns,fun b o e=>(S.keep b o e).elim (I.k b o) (I.j b o),S.above⟩
noncomputable def restOf (h₀:Heap)(L:Addr)(h:Heap):Led:=(List.range h.objs.size).filterMap fun a=>match h.get? a,h₀.get? a,decide (a=L) with
 |some o,none,false=>some (a,o)
 |_,_,_=>none
theorem mem_restOf {h₀ h:Heap}{L:Addr}{p:Addr×Obj}:p∈restOf h₀ L h↔h.get? p.1=some p.2∧h₀.get? p.1=none∧p.1≠L:=by
 obtain ⟨a,o⟩:=p
 unfold restOf
 rw [List.mem_filterMap]
 constructor
 ·rintro ⟨b,_,e⟩
  split at e
  ·rename_i o' e1 e2 e3
   cases e
   exact ⟨e1,e2,of_decide_eq_false e3⟩
  ·cases e
 ·rintro ⟨e1,e2,e3⟩
  refine ⟨a,List.mem_range.mpr (Heap.lt_size e1),?_⟩
  dsimp only at e1 e2 e3
  rw [e1,e2,decide_eq_false e3]
structure Grow (L:Addr)(m:Str→Option Value)(h h':Heap):Prop where
 keep: ∀a o,a≠L→h.get? a=some o→h'.get? a=some o
 ns:h'.Ns L m
theorem news_rest {h₀ h:Heap}{L:Addr}:News h₀ L h (restOf h₀ L h):=fun p hp=>let ⟨a,b,c⟩:=mem_restOf.mp hp;⟨a,c,b⟩
theorem Grow.of_news {h₀ h h':Heap}{L:Addr}{m:Str→Option Value}{l:Led}(F:Fr h₀ L h m)(F':Fr h₀ L h' m)(N:News h₀ L h' l)(hs: ∀p∈restOf h₀ L h,p∈l):Grow L m h h':=by
 refine ⟨fun a o n e=>?_,F'.ns⟩
 cases q:h₀.get? a with
 |none=>exact (N (a,o) (hs _ (mem_restOf.mpr ⟨e,q,n⟩))).1
 |some o'=>
  have:=F.keep a o' q
  rw [e] at this
  cases this
  exact F'.keep a o q
theorem Inv.grow {K J:Kept}{l:Led}{L:Addr}{m:Str→Option Value}{h h':Heap}(I:Inv K J l L m h)(g:Grow L m h h'):Inv K J l L m h':=
 {I with k:=fun a o e=>g.keep a o (fun q=>I.kL o (q▸e)) (I.k a o e),j:=fun a o e=>g.keep a o (fun q=>I.jL o (q▸e)) (I.j a o e),ow:=fun p hp=>g.keep _ _ (I.oL p hp) (I.ow p hp),ns:=g.ns}
noncomputable def Kept.add (K:Kept)(a:Addr)(o:Obj):Kept:=fun b o'=>K b o'∨(b=a∧o'=o)
theorem Kept.sub {K:Kept}{a:Addr}{o:Obj}: ∀b o',K b o'→K.add a o b o':=fun _ _ h=> .inl h
theorem Kept.new {K:Kept}{a:Addr}{o:Obj}:K.add a o a o:= .inr ⟨rfl,rfl⟩
theorem Inv.add {K J:Kept}{l:Led}{L:Addr}{m:Str→Option Value}{h h':Heap}{a:Addr}{o:Obj}(I:Inv K J l L m h)(g:Grow L m h h')(hn:h.get? a=none)(ho:h'.get? a=some o):Inv (K.add a o) J l L m h':=by
 have I':=I.grow g
 have aL:a≠L:=by
  rintro rfl
  obtain ⟨_,_,_,e,_⟩:=I.ns
  rw [hn] at e;cases e
 refine {I' with k:=?_,ok:=?_,kj:=?_,kL:=?_}
 ·rintro b o' (e|⟨rfl,rfl⟩)
  ·exact I'.k b o' e
  ·exact ho
 ·rintro p hp o' (e|⟨e,rfl⟩)
  ·exact I.ok p hp o' e
  ·have:=I.ow p hp
   rw [e,hn] at this;cases this
 ·rintro b o' o'' (e|⟨rfl,rfl⟩) q
  ·exact I.kj b o' o'' e q
  ·have:=I.j _ _ q
   rw [hn] at this;cases this
 ·intro o' e
  rcases e with e|⟨e,_⟩
  ·exact I.kL o' e
  ·exact aL e.symm
theorem Inv.own1 {K J:Kept}{l:Led}{L:Addr}{m:Str→Option Value}{h h':Heap}{a:Addr}{o:Obj}(I:Inv K J l L m h)(g:Grow L m h h')(hn:h.get? a=none)(ho:h'.get? a=some o):Inv K J ((a,o)::l) L m h':=by
 have I':=I.grow g
 have aL:a≠L:=by
  rintro rfl
  obtain ⟨_,_,_,e,_⟩:=I.ns
  rw [hn] at e;cases e
 refine {I' with ow:=?_,nodup:=?_,ok:=?_,oj:=?_,oL:=?_}
 ·intro p hp
  rcases List.mem_cons.mp hp with rfl|hp
  ·exact ho
  ·exact I'.ow p hp
 ·rw [List.map_cons,List.nodup_cons]
  refine ⟨fun hm=>?_,I.nodup⟩
  obtain ⟨p,hp,e⟩:=List.mem_map.mp hm
  have:=I.ow p hp
  rw [e] at this
  dsimp only at this
  rw [hn] at this;cases this
 ·intro p hp o' e
  rcases List.mem_cons.mp hp with rfl|hp
  ·have:=I.k _ _ e
   rw [hn] at this;cases this
  ·exact I.ok p hp o' e
 ·intro p hp o' e
  rcases List.mem_cons.mp hp with rfl|hp
  ·have:=I.j _ _ e
   rw [hn] at this;cases this
  ·exact I.oj p hp o' e
 ·intro p hp
  rcases List.mem_cons.mp hp with rfl|hp
  ·exact aL
  ·exact I.oL p hp
@[elab_as_elim] theorem rwG {α:Sort _}{M:α→Prop}{a b:α}(h:a=b)(g:M b):M a:=h▸g
@[elab_as_elim] theorem rwGr {α:Sort _}{M:α→Prop}{a b:α}(h:b=a)(g:M b):M a:=h▸g
theorem hideG {W:Prop}(h: ∀M:Prop,(W→M)→M):W:=h W id
section
variable {M:Model}{A:Around}{α:Type}{c:Prop} [Decidable c] {a b:Sem α}{Q:α→Shared→Prop}{E:Value→Shared→Prop}{s:Shared}
theorem wp_pos (hc:c)(h:wpAny M A a Q E s):wpAny M A (if c then a else b) Q E s:=by rw [if_pos hc];exact h
theorem wp_neg (hc: ¬c)(h:wpAny M A b Q E s):wpAny M A (if c then a else b) Q E s:=by rw [if_neg hc];exact h
end
inductive PostR {α β:Type}(rel:Kept→β→α→Prop)(G:Gl)(L:Addr)(m:Str→Option Value)(K J:Kept)(s:Shared)(Q:β→Own→Prop)(a:α)(s':Shared):Prop where
 |mk (K':Kept) (own:Led) (b:β) (σ:Own) (h:Heap) (tk:Nat) (e:s'={s with heap:=h,toks:=tk}) (k: ∀a o,K a o→K' a o) (I:Inv K' J own L m h) (O:Owns G.w.params K' σ own) (r:rel K' b a) (q:Q b σ)
noncomputable abbrev Post (G:Gl)(L:Addr)(m:Str→Option Value)(K J:Kept)(s:Shared)(Q:AVal→Own→Prop)(cv:Value)(s':Shared):Prop:=PostR (VRel G.w.params) G L m K J s Q cv s'
noncomputable abbrev isIt {α:Type}(_:Kept)(b a:α):Prop:=a=b
inductive Flown (C:Cx)(s:Shared)(ev:Value)(s':Shared):Prop where
 |mk (e t:Addr) (vs:List Value) (h:Heap) (tk:Nat) (g₂:Heap) (m:Str→Option Value) (e1:ev= .ref e) (e2:s'={s with heap:=h,toks:=tk}) (r:RaisedS C.base g₂ (C.fenv::C.outer) e (.ref clsFont) t vs [] h) (F:Fr C.h₀ C.L g₂ m) (U:g₂.UpToSlots h)
noncomputable def Run {α β:Type}(rel:Kept→β→α→Prop)(G:Gl)(C:Cx)(lv:List (Option AVal))(σ:Own)(t:Sem α)(Q:β→Own→Prop)(x:Prop):Prop:=
 ∀K J m own s,Sit G C lv K J m→Inv K J own C.L m s.heap→Owns G.w.params K σ own→
  wpAny (model G.prog G.w) C.A t (PostR rel G C.L m K J s Q) (fun ev s'=>x∧Flown C s ev s') s
noncomputable abbrev Ev (G:Gl)(C:Cx)(lv:List (Option AVal))(σ:Own)(e:Expr)(Q:AVal→Own→Prop)(x:Prop):Prop:=Run (VRel G.w.params) G C lv σ (eval e C.env) Q x
noncomputable abbrev Tst (G:Gl)(C:Cx)(lv:List (Option AVal))(σ:Own)(e:Expr)(Q:Bool→Own→Prop)(x:Prop):Prop:=Run isIt G C lv σ (isTrue e C.env (eval e C.env)) Q x
theorem Flown.start {C:Cx}{s s₁:Shared}{h:Heap}{tk:Nat}(e:s₁={s with heap:=h,toks:=tk}){ev:Value}{s':Shared}(x:Flown C s₁ ev s'):Flown C s ev s':=by
 subst e
 obtain ⟨e,t,vs,h',tk',g₂,m,h1,h2,h3,h4,h5⟩:=x
 exact ⟨e,t,vs,h',tk',g₂,m,h1,h2,h3,h4,h5⟩
section
variable {α β:Type}{rel:Kept→β→α→Prop}{G:Gl}{C:Cx}{lv:List (Option AVal)}{σ:Own}{x:Prop}
theorem PostR.from {L:Addr}{m:Str→Option Value}{K K₁ J:Kept}{s:Shared}{h₁:Heap}{tk₁:Nat}{Q:β→Own→Prop}{a:α}{s':Shared}(hk: ∀a o,K a o→K₁ a o)
  (p:PostR rel G L m K₁ J {s with heap:=h₁,toks:=tk₁} Q a s'):PostR rel G L m K J s Q a s':=
 let ⟨K',own',v,σ',h',tk',e,k,I',O',r,q⟩:=p
 ⟨K',own',v,σ',h',tk',e,fun a o z=>k _ _ (hk _ _ z),I',O',r,q⟩
theorem Run.seq {t:Sem α}{Q:β→Own→Prop}(h:Run rel G C lv σ t Q x)
  {K J:Kept}{m:Str→Option Value}{own:Led}{s:Shared}(S:Sit G C lv K J m) (I:Inv K J own C.L m s.heap) (O:Owns G.w.params K σ own) {QQ:α→Shared→Prop}{E:Value→Shared→Prop}
  (k: ∀K' own' b σ' h' tk' a,(∀a o,K a o→K' a o)→Inv K' J own' C.L m h'→Owns G.w.params K' σ' own'→rel K' b a→Sit G C lv K' J m→Q b σ'→QQ a {s with heap:=h',toks:=tk'})
  (kE: ∀ev s',x∧Flown C s ev s'→E ev s'):wpAny (model G.prog G.w) C.A t QQ E s:=
 wpAny_mono (h K J m own s S I O) (fun cv s' ⟨K',own',v,σ',h',tk',e,hk,I',O',r,q⟩=>e▸k K' own' v σ' h' tk' cv hk I' O' r (S.mono hk) q) fun ev s' f=>kE ev s' f
theorem Run.last {α' β':Type}{rel':Kept→β'→α'→Prop}{t:Sem α'}{Q:β'→Own→Prop}{σ₁:Own}(h:Run rel' G C lv σ₁ t Q x){K K₁ J:Kept}{m:Str→Option Value}{own₁:Led}{s:Shared}{h₁:Heap}{tk₁:Nat}
  (S:Sit G C lv K₁ J m) (I:Inv K₁ J own₁ C.L m h₁) (O:Owns G.w.params K₁ σ₁ own₁) (hk: ∀a o,K a o→K₁ a o):
  wpAny (model G.prog G.w) C.A t (PostR rel' G C.L m K J s Q) (fun ev s'=>x∧Flown C s ev s') {s with heap:=h₁,toks:=tk₁}:=
 wpAny_mono (h K₁ J m own₁ {s with heap:=h₁,toks:=tk₁} S I O) (fun _ _ p=>p.from hk) fun _ _ ⟨a,f⟩=>⟨a,f.start rfl⟩
theorem Run.mono {t:Sem α}{Q Q':β→Own→Prop}{x':Prop}(h:Run rel G C lv σ t Q x)(hq: ∀v σ',Q v σ'→Q' v σ')(hx:x→x'):Run rel G C lv σ t Q' x':=
 fun K J m own s S I O=>wpAny_mono (h K J m own s S I O) (fun cv s' ⟨K',own',v,σ',h',tk',e,hk,I',O',r,q⟩=>⟨K',own',v,σ',h',tk',e,hk,I',O',r,hq _ _ q⟩) fun ev s' ⟨a,f⟩=>⟨hx a,f⟩
end
section
variable {G:Gl}{C:Cx}{lv:List (Option AVal)}{σ:Own}{Q:AVal→Own→Prop}{x:Prop}
theorem Ev.int {i:Int}{k:Nat}{pos:Pos}(h:Q (.int i) σ):Ev G C lv σ (.Constant (.int i) k pos) Q x:=fun K J m own s S I O=>
 wpAny_Constant_int ⟨K,own,_,σ,s.heap,s.toks+1,rfl,fun _ _ e=>e,I,O,.int _ _,h⟩
theorem Ev.name {i:Nat}{y:Str}{k:NameKind}{v:AVal}{pos:Pos}(hn:C.env.scope.names[i]?=some (y,k))(hv:lv[i]?=some (some v))(h:Q v σ):Ev G C lv σ (.Name y pos) Q x:=fun K J m own s S I O=>by
 obtain ⟨cv,⟨hd,hc⟩,r⟩:=S.lv i y k v hn hv
 refine wpAny_Name ?_ hd
 have P:Post G C.L m K J s Q cv s:=⟨K,own,v,σ,s.heap,s.toks,rfl,fun _ _ e=>e,I,O,r,h⟩
 rcases hc with ⟨hl,⟨hL,hf⟩|⟨o,es,ep,hj,hd,hs,hf⟩⟩|⟨hl,c,o,hc,hj,hd⟩
 ·exact wpAny_loadName_local S.kind hl (hL▸I.ns) hf P
 ·exact wpAny_loadName_local S.kind hl ⟨o,es,ep,I.j _ _ hj,hd,hs,fun _=>rfl⟩ hf P
 ·exact wpAny_loadName_cell S.kind hl hc ⟨o,I.j _ _ hj,hd⟩ P
end
noncomputable def Bin (G:Gl)(C:Cx)(lv:List (Option AVal))(σ:Own)(op:Operator)(a b:AVal)(Q:AVal→Own→Prop)(x:Prop):Prop:=
 ∀K J m own s ca cb,Sit G C lv K J m→Inv K J own C.L m s.heap→Owns G.w.params K σ own→VRel G.w.params K a ca→VRel G.w.params K b cb→
  wpAny (model G.prog G.w) C.A (binaryOp op ca cb) (Post G C.L m K J s Q) (fun ev s'=>x∧Flown C s ev s') s
section
variable {G:Gl}{C:Cx}{lv:List (Option AVal)}{σ:Own}{Q:AVal→Own→Prop}{x:Prop}
theorem Ev.bin {l r:Expr}{op:Operator}{pos:Pos}
  (h:Ev G C lv σ l (fun a σ₁=>Ev G C lv σ₁ r (fun b σ₂=>Bin G C lv σ₂ op a b Q x) x) x):Ev G C lv σ (.BinOp l op r pos) Q x:=fun K J m own s S I O=>by
 refine wpAny_BinOp (h.seq S I O (fun K₁ own₁ a σ₁ h₁ tk₁ ca k₁ I₁ O₁ r₁ S₁ q₁=>?_) fun _ _ f=>f)
 refine q₁.seq (s:={s with heap:=h₁,toks:=tk₁}) S₁ I₁ O₁ (fun K₂ own₂ b σ₂ h₂ tk₂ cb k₂ I₂ O₂ r₂ S₂ q₂=>?_) fun ev s' f=>⟨f.1,f.2.start rfl⟩
 exact wpAny_mono (q₂ K₂ J m own₂ {s with heap:=h₂,toks:=tk₂} ca cb S₂ I₂ O₂ (r₁.mono k₂) r₂) (fun cv s' p=>p.from fun a o z=>k₂ _ _ (k₁ _ _ z)) fun ev s' f=>⟨f.1,f.2.start rfl⟩
end
section
variable {P:Params}{K:Kept}
theorem VRels.one {v:AVal}{cvs:List Value}(h:VRels P K [v] cvs): ∃c,cvs= [c]∧VRel P K v c:=by
 obtain ⟨c,cs,rfl,a,b⟩:=h.consI
 exact ⟨c,by rw [b.nilI],a⟩
theorem VRels.two {v w:AVal}{cvs:List Value}(h:VRels P K [v,w] cvs): ∃c d,cvs= [c,d]∧VRel P K v c∧VRel P K w d:=by
 obtain ⟨c,cs,rfl,a,b⟩:=h.consI
 obtain ⟨d,rfl,b1⟩:=b.one
 exact ⟨c,d,rfl,a,b1⟩
theorem VRels.three {v w u:AVal}{cvs:List Value}(h:VRels P K [v,w,u] cvs): ∃c d e,cvs= [c,d,e]∧VRel P K v c∧VRel P K w d∧VRel P K u e:=by
 obtain ⟨c,cs,rfl,a,b⟩:=h.consI
 obtain ⟨d,e,rfl,b1,b2⟩:=b.two
 exact ⟨c,d,e,rfl,a,b1,b2⟩
theorem VRel.intI {i:Int}{c:Value}(h:VRel P K (.int i) c): ∃t,c= .int i t:=h.intE fun _=>⟨_,rfl⟩
theorem VRel.strI {i:Str}{c:Value}(h:VRel P K (.str i) c): ∃t,c= .str i t:=h.strE fun _=>⟨_,rfl⟩
theorem VRel.bytesI {i:List UInt8}{c:Value}(h:VRel P K (.bytes i) c): ∃t,c= .bytes i.toArray t:=h.bytesE fun _=>⟨_,rfl⟩
theorem VRel.refI {a:Addr}{c:Value}(h:VRel P K (.ref a) c):c= .ref a:=h.refE rfl
theorem VRel.lstI {vs:List AVal}{c:Value}(h:VRel P K (.lst vs) c): ∃a cvs n,c= .ref a∧K a (seqObj "list" cvs n)∧VRels P K vs cvs:=h.lstE fun _ _ _ a b=>⟨_,_,_,rfl,a,b⟩
theorem VRel.dSI {kvs:List (Str×AVal)}{c:Value}(h:VRel P K (.dS kvs) c): ∃a es n,c= .ref a∧K a (dictOf es n)∧ERelS P K kvs es∧a≠sysModules:=h.dSE fun _ _ _ a b d=>⟨_,_,_,rfl,a,b,d⟩
end
theorem lt2c {i:Nat}(h:i<2):i=0∨i=1:=(Nat.lt_succ_iff_lt_or_eq.mp h).imp_left Nat.lt_one_iff.mp
theorem lt3c {i:Nat}(h:i<3):i=0∨i=1∨i=2:=(Nat.lt_succ_iff_lt_or_eq.mp h).elim (fun h=>(lt2c h).imp_right .inl) fun h=> .inr (.inr h)
theorem lt4c {i:Nat}(h:i<4):i=0∨i=1∨i=2∨i=3:=(Nat.lt_succ_iff_lt_or_eq.mp h).elim (fun h=>(lt3c h).imp_right (Or.imp_right .inl)) fun h=> .inr (.inr (.inr h))
theorem or13 {n:Nat}(h1:1≤n)(h3:n≤3):n=1∨n=2∨n=3:=(lt4c (Nat.lt_succ_of_le h3)).resolve_left fun e=>absurd (e▸h1:1≤0) (by decide)
theorem subS {n i:Nat}(h:i<n):n - i=n - (i+1)+1:=(Nat.succ_pred_eq_of_pos (Nat.sub_pos_of_lt h)).symm
theorem subP {n i k:Nat}(h:n - i=k+1):n - (i+1)=k:=congrArg Nat.pred h
theorem subL {n i:Nat}(h:i<n):n+1 - (i+1)<n+1 - i:=Nat.sub_lt_sub_left (Nat.lt_succ_of_lt h) (Nat.lt_succ_self i)
section
variable {α:Type}{P:List α→Prop}
theorem len1 (h: ∀a,P [a]): ∀cvs:List α,cvs.length=1→P cvs:=fun cvs e=>by obtain ⟨a,rfl⟩:=List.length_eq_one_iff.mp e;exact h a
theorem lenS {n:Nat}{cvs:List α}(e:cvs.length=n+1): ∃a r,cvs=a::r∧r.length=n:=by
 cases cvs with
 |nil=>cases e
 |cons a r=>exact ⟨a,r,rfl,by simpa using e⟩
theorem len2 (h: ∀a b,P [a,b]): ∀cvs:List α,cvs.length=2→P cvs:=fun cvs e=>by
 obtain ⟨a,r,rfl,e'⟩:=lenS e
 exact len1 (P:=fun r=>P (a::r)) (h a) r e'
theorem len3 (h: ∀a b c,P [a,b,c]): ∀cvs:List α,cvs.length=3→P cvs:=fun cvs e=>by
 obtain ⟨a,r,rfl,e'⟩:=lenS e
 exact len2 (P:=fun r=>P (a::r)) (h a) r e'
theorem len4 (h: ∀a b c d,P [a,b,c,d]): ∀cvs:List α,cvs.length=4→P cvs:=fun cvs e=>by
 obtain ⟨a,r,rfl,e'⟩:=lenS e
 exact len3 (P:=fun r=>P (a::r)) (h a) r e'
theorem len5 (h: ∀a b c d f,P [a,b,c,d,f]): ∀cvs:List α,cvs.length=5→P cvs:=fun cvs e=>by
 obtain ⟨a,r,rfl,e'⟩:=lenS e
 exact len4 (P:=fun r=>P (a::r)) (h a) r e'
theorem len6 (h: ∀a b c d f g,P [a,b,c,d,f,g]): ∀cvs:List α,cvs.length=6→P cvs:=fun cvs e=>by
 obtain ⟨a,r,rfl,e'⟩:=lenS e
 exact len5 (P:=fun r=>P (a::r)) (h a) r e'
end
theorem Post.same {G:Gl}{L:Addr}{m:Str→Option Value}{K J:Kept}{own:Led}{σ:Own}{s:Shared}{Q:AVal→Own→Prop}{v:AVal}{cv:Value}{tk:Nat}
  (I:Inv K J own L m s.heap) (O:Owns G.w.params K σ own) (r:VRel G.w.params K v cv) (q:Q v σ):Post G L m K J s Q cv {s with toks:=tk}:=
 ⟨K,own,v,σ,s.heap,tk,rfl,fun _ _ e=>e,I,O,r,q⟩
section
variable {G:Gl}{C:Cx}{lv:List (Option AVal)}{σ:Own}{Q:AVal→Own→Prop}{x:Prop}{a b:Int}
theorem Bin.ii {op:Operator}{a:Int}{b:Int}(k: ∀K J m own s t u,Sit G C lv K J m→Inv K J own C.L m s.heap→Owns G.w.params K σ own→wpAny (model G.prog G.w) C.A (binaryOp op (.int a t) (.int b u)) (Post G C.L m K J s Q) (fun ev s'=>x∧Flown C s ev s') s):Bin G C lv σ op (.int a) (.int b) Q x:=
 fun K J m own s ca cb S I O ra rb=>ra.intE fun t=>rb.intE fun u=>k K J m own s t u S I O
theorem Bin.bb {op:Operator}{a:List UInt8}{b:List UInt8}(k: ∀K J m own s t u,Sit G C lv K J m→Inv K J own C.L m s.heap→Owns G.w.params K σ own→wpAny (model G.prog G.w) C.A (binaryOp op (.bytes a.toArray t) (.bytes b.toArray u)) (Post G C.L m K J s Q) (fun ev s'=>x∧Flown C s ev s') s):Bin G C lv σ op (.bytes a) (.bytes b) Q x:=
 fun K J m own s ca cb S I O ra rb=>ra.bytesE fun t=>rb.bytesE fun u=>k K J m own s t u S I O
theorem Bin.bi {op:Operator}{a:List UInt8}{b:Int}(k: ∀K J m own s t u,Sit G C lv K J m→Inv K J own C.L m s.heap→Owns G.w.params K σ own→wpAny (model G.prog G.w) C.A (binaryOp op (.bytes a.toArray t) (.int b u)) (Post G C.L m K J s Q) (fun ev s'=>x∧Flown C s ev s') s):Bin G C lv σ op (.bytes a) (.int b) Q x:=
 fun K J m own s ca cb S I O ra rb=>ra.bytesE fun t=>rb.intE fun u=>k K J m own s t u S I O
theorem Bin.add (h:Q (.int (a+b)) σ):Bin G C lv σ .Add (.int a) (.int b) Q x:= .ii fun K J m own s t u S I O=>PyProof.Rows.add_int (.same I O (.int _ _) h)
theorem Bin.sub (h:Q (.int (a - b)) σ):Bin G C lv σ .Sub (.int a) (.int b) Q x:= .ii fun K J m own s t u S I O=>PyProof.Rows.sub_int (.same I O (.int _ _) h)
theorem Bin.mul (h:Q (.int (a*b)) σ)(hm:IntMulOk a b):Bin G C lv σ .Mult (.int a) (.int b) Q x:= .ii fun K J m own s t u S I O=>PyProof.Rows.mul_int (.same I O (.int _ _) h) hm
theorem Bin.mulL (h:Q (.int (a*b)) σ)(h1: -(2^64)<a)(h2:a<2^64):Bin G C lv σ .Mult (.int a) (.int b) Q x:= .mul h (.of_left (intBits_le_64 h1 h2))
theorem Bin.mulR (h:Q (.int (a*b)) σ)(h1: -(2^64)<b)(h2:b<2^64):Bin G C lv σ .Mult (.int a) (.int b) Q x:= .mul h (.of_right (intBits_le_64 h1 h2))
theorem Bin.mod (h:Q (.int (a.fmod b)) σ)(hb:b≠0):Bin G C lv σ .Mod (.int a) (.int b) Q x:= .ii fun K J m own s t u S I O=>PyProof.Rows.mod_int hb (.same I O (.int _ _) h)
theorem Bin.floordiv (h:Q (.int (a.fdiv b)) σ)(hb:b≠0)(hs:b.natAbs<1073741824):Bin G C lv σ .FloorDiv (.int a) (.int b) Q x:= .ii fun K J m own s t u S I O=>PyProof.Rows.floordiv_int hb (.same I O (.int _ _) h) (.inl (PyProof.noPylong_small hs))
theorem Bin.pow (h:Q (.int (a^b.toNat)) σ)(hb:0≤b)(hs:(Builtin.Int.intBits a:Int)*b≤2^27):Bin G C lv σ .Pow (.int a) (.int b) Q x:= .ii fun K J m own s t u S I O=>PyProof.Rows.pow_int hb hs (.same I O (.int _ _) h)
theorem Bin.shl (h:Q (.int (a*2^b.toNat)) σ)(hb:0≤b)(hs:(Builtin.Int.intBits a:Int)+b≤2^27):Bin G C lv σ .LShift (.int a) (.int b) Q x:= .ii fun K J m own s t u S I O=>PyProof.Rows.lshift_int hb hs (.same I O (.int _ _) h)
theorem Bin.shr (h:Q (.int (a.fdiv (2^b.toNat))) σ)(hb:0≤b):Bin G C lv σ .RShift (.int a) (.int b) Q x:= .ii fun K J m own s t u S I O=>PyProof.Rows.rshift_int hb (.same I O (.int _ _) h)
theorem Bin.and (h:Q (.int (Builtin.bitAnd a b)) σ):Bin G C lv σ .BitAnd (.int a) (.int b) Q x:= .ii fun K J m own s t u S I O=>PyProof.Rows.and_int (.same I O (.int _ _) h)
theorem Bin.or (h:Q (.int (Builtin.bitOr a b)) σ):Bin G C lv σ .BitOr (.int a) (.int b) Q x:= .ii fun K J m own s t u S I O=>PyProof.Rows.or_int (.same I O (.int _ _) h)
theorem Bin.addB {p q:List UInt8}(h:Q (.bytes (p++q)) σ)(hs:p.length+q.length≤16777216):Bin G C lv σ .Add (.bytes p) (.bytes q) Q x:= .bb fun K J m own s t u S I O=>bytes_add_K (by simpa using hs) rfl fun t' k=> .same I O (.bytes _ _) h
theorem Bin.mulB {p:List UInt8}(h:Q (.bytes ((List.replicate b.toNat p).flatten)) σ)(hp:p≠ [])(h2:2≤b)(hn:b≤1048576)(hs:p.length*b.toNat≤16777216):Bin G C lv σ .Mult (.bytes p) (.int b) Q x:= .bi fun K J m own s t u S I O=>PySem.W.bytes_mul_K hp h2 hn hs rfl fun t' k=> .same I O (.bytes _ _) h
end
noncomputable def Cmp (G:Gl)(C:Cx)(lv:List (Option AVal))(σ:Own)(op:CmpOp)(a b:AVal)(Q:Bool→Own→Prop)(x:Prop):Prop:=
 ∀K J m own s ca cb,Sit G C lv K J m→Inv K J own C.L m s.heap→Owns G.w.params K σ own→VRel G.w.params K a ca→VRel G.w.params K b cb→
  wpAny (model G.prog G.w) C.A (compareOp op ca cb) (PostR (fun _ b v=>v= .bool b) G C.L m K J s Q) (fun ev s'=>x∧Flown C s ev s') s
section
variable {G:Gl}{C:Cx}{lv:List (Option AVal)}{σ:Own}{x:Prop}
theorem PostR.same {α β:Type}{rel:Kept→β→α→Prop}{L:Addr}{m:Str→Option Value}{K J:Kept}{own:Led}{s:Shared}{Q:β→Own→Prop}{v:β}{cv:α}
  (I:Inv K J own L m s.heap) (O:Owns G.w.params K σ own) (r:rel K v cv) (q:Q v σ):PostR rel G L m K J s Q cv s:=
 ⟨K,own,v,σ,s.heap,s.toks,rfl,fun _ _ e=>e,I,O,r,q⟩
section
variable {Q:AVal→Own→Prop}
theorem Ev.str {y:Str}{k:Nat}{pos:Pos}(h:Q (.str y) σ):Ev G C lv σ (.Constant (.str y) k pos) Q x:=fun K J m own s S I O=>Constant_str ⟨K,own,_,σ,s.heap,_,rfl,fun _ _ e=>e,I,O,.str _ _,h⟩
theorem Ev.bytes {y:List UInt8}{k:Nat}{pos:Pos}(h:Q (.bytes y) σ):Ev G C lv σ (.Constant (.bytes y) k pos) Q x:=fun K J m own s S I O=>Constant_bytes ⟨K,own,_,σ,s.heap,_,rfl,fun _ _ e=>e,I,O,.bytes _ _,h⟩
theorem Ev.ifexp {c a b:Expr}{pos:Pos}(h:Tst G C lv σ c (fun bb σ₁=>if bb then Ev G C lv σ₁ a Q x else Ev G C lv σ₁ b Q x) x):Ev G C lv σ (.IfExp c a b pos) Q x:=fun K J m own s S I O=>by
 refine wpAny_IfExp (h.seq S I O (fun K₁ own₁ bb σ₁ h₁ tk₁ a k₁ I₁ O₁ r₁ S₁ q₁=>?_) fun _ _ f=>f)
 subst r₁
 cases a
 ·exact Run.last q₁ S₁ I₁ O₁ k₁
 ·exact Run.last q₁ S₁ I₁ O₁ k₁
end
section
variable {Q:Bool→Own→Prop}{a b:Int}
theorem Cmp.ii {op:CmpOp}{a b:Int}(k: ∀K J m own s t u,Sit G C lv K J m→Inv K J own C.L m s.heap→Owns G.w.params K σ own→wpAny (model G.prog G.w) C.A (compareOp op (.int a t) (.int b u)) (PostR (fun _ b v=>v= .bool b) G C.L m K J s Q) (fun ev s'=>x∧Flown C s ev s') s):Cmp G C lv σ op (.int a) (.int b) Q x:=
 fun K J m own s ca cb S I O ra rb=>ra.intE fun t=>rb.intE fun u=>k K J m own s t u S I O
theorem Cmp.bb {op:CmpOp}{a b:List UInt8}(k: ∀K J m own s t u,Sit G C lv K J m→Inv K J own C.L m s.heap→Owns G.w.params K σ own→wpAny (model G.prog G.w) C.A (compareOp op (.bytes a.toArray t) (.bytes b.toArray u)) (PostR (fun _ b v=>v= .bool b) G C.L m K J s Q) (fun ev s'=>x∧Flown C s ev s') s):Cmp G C lv σ op (.bytes a) (.bytes b) Q x:=
 fun K J m own s ca cb S I O ra rb=>ra.bytesE fun t=>rb.bytesE fun u=>k K J m own s t u S I O
theorem Cmp.ss {op:CmpOp}{a b:Str}(k: ∀K J m own s t u,Sit G C lv K J m→Inv K J own C.L m s.heap→Owns G.w.params K σ own→wpAny (model G.prog G.w) C.A (compareOp op (.str a t) (.str b u)) (PostR (fun _ b v=>v= .bool b) G C.L m K J s Q) (fun ev s'=>x∧Flown C s ev s') s):Cmp G C lv σ op (.str a) (.str b) Q x:=
 fun K J m own s ca cb S I O ra rb=>ra.strE fun t=>rb.strE fun u=>k K J m own s t u S I O
theorem Cmp.lt (h:Q (decide (a<b)) σ):Cmp G C lv σ .Lt (.int a) (.int b) Q x:= .ii fun K J m own s t u S I O=>PyProof.Rows.lt_int (.same I O rfl h)
theorem Cmp.gt (h:Q (decide (b<a)) σ):Cmp G C lv σ .Gt (.int a) (.int b) Q x:= .ii fun K J m own s t u S I O=>PyProof.Rows.gt_int (.same I O rfl h)
theorem Cmp.le (h:Q (decide (a≤b)) σ):Cmp G C lv σ .LtE (.int a) (.int b) Q x:= .ii fun K J m own s t u S I O=>PySem.P.le_int (.same I O rfl h)
theorem Cmp.ge (h:Q (decide (b≤a)) σ):Cmp G C lv σ .GtE (.int a) (.int b) Q x:= .ii fun K J m own s t u S I O=>PySem.P.ge_int (.same I O rfl h)
theorem Cmp.eq (h:Q (a==b) σ):Cmp G C lv σ .Eq (.int a) (.int b) Q x:= .ii fun K J m own s t u S I O=>PyProof.Rows.eq_int (.same I O rfl h)
theorem Cmp.ne (h:Q (a !=b) σ):Cmp G C lv σ .NotEq (.int a) (.int b) Q x:= .ii fun K J m own s t u S I O=>PyProof.Rows.ne_int (.same I O rfl h)
theorem Cmp.eqB {p q:List UInt8}(h:Q (p==q) σ):Cmp G C lv σ .Eq (.bytes p) (.bytes q) Q x:= .bb fun K J m own s t u S I O=>eq_bytes (.same I O rfl h)
theorem Cmp.neB {p q:List UInt8}(h:Q (p !=q) σ):Cmp G C lv σ .NotEq (.bytes p) (.bytes q) Q x:= .bb fun K J m own s t u S I O=>ne_bytes (.same I O rfl h)
theorem Cmp.eqS {p q:Str}(h:Q (p==q) σ):Cmp G C lv σ .Eq (.str p) (.str q) Q x:= .ss fun K J m own s t u S I O=>PyProof.Rows.eq_str (.same I O rfl h)
theorem Cmp.ltS {p q:Str}(h:Q (p.cps.toList<q.cps.toList) σ):Cmp G C lv σ .Lt (.str p) (.str q) Q x:= .ss fun K J m own s t u S I O=>PyProof.Rows.lt_str (.same I O rfl h)
theorem Cmp.gtS {p q:Str}(h:Q (q.cps.toList<p.cps.toList) σ):Cmp G C lv σ .Gt (.str p) (.str q) Q x:= .ss fun K J m own s t u S I O=>PySem.P.gt_str (.same I O rfl h)
theorem Cmp.geS {p q:Str}(h:Q (!(p.cps.toList<q.cps.toList)) σ):Cmp G C lv σ .GtE (.str p) (.str q) Q x:= .ss fun K J m own s t u S I O=>PySem.P.ge_str (.same I O rfl h)
theorem Tst.cmp {l r:Expr}{op:CmpOp}{pos:Pos}(h:Ev G C lv σ l (fun a σ₁=>Ev G C lv σ₁ r (fun b σ₂=>Cmp G C lv σ₂ op a b Q x) x) x)
  (hm:behindInMarks op r=false:=by rfl):Tst G C lv σ (.Compare l [op] [r] pos) Q x:=fun K J m own s S I O=>by
 refine wpAny_isTrue_Compare1 (h.seq S I O (fun K₁ own₁ a σ₁ h₁ tk₁ ca k₁ I₁ O₁ r₁ S₁ q₁=>?_) fun _ _ f=>f) hm
 refine q₁.seq (s:={s with heap:=h₁,toks:=tk₁}) S₁ I₁ O₁ (fun K₂ own₂ b σ₂ h₂ tk₂ cb k₂ I₂ O₂ r₂ S₂ q₂=>?_) fun ev s' f=>⟨f.1,f.2.start rfl⟩
 refine wpAny_mono (q₂ K₂ J m own₂ {s with heap:=h₂,toks:=tk₂} ca cb S₂ I₂ O₂ (r₁.mono k₂) r₂) (fun cv s' p=>?_) fun ev s' f=>⟨f.1,f.2.start rfl⟩
 obtain ⟨K',own',v,σ',h',tk',rfl,k,I',O',rfl,q⟩:=p
 exact wpAny_truthy_bool ⟨K',own',v,σ',h',tk',rfl,fun a o z=>k _ _ (k₂ _ _ (k₁ _ _ z)),I',O',rfl,q⟩
theorem Ev.cmp {l r:Expr}{op:CmpOp}{pos:Pos}{QQ:AVal→Own→Prop}(h:Ev G C lv σ l (fun a σ₁=>Ev G C lv σ₁ r (fun b σ₂=>Cmp G C lv σ₂ op a b (fun bb=>QQ (.bool bb)) x) x) x)
  (hm:behindInMarks op r=false:=by rfl):Ev G C lv σ (.Compare l [op] [r] pos) QQ x:=fun K J m own s S I O=>by
 refine wpAny_Compare1 (h.seq S I O (fun K₁ own₁ a σ₁ h₁ tk₁ ca k₁ I₁ O₁ r₁ S₁ q₁=>?_) fun _ _ f=>f) hm
 refine q₁.seq (s:={s with heap:=h₁,toks:=tk₁}) S₁ I₁ O₁ (fun K₂ own₂ b σ₂ h₂ tk₂ cb k₂ I₂ O₂ r₂ S₂ q₂=>?_) fun ev s' f=>⟨f.1,f.2.start rfl⟩
 refine wpAny_mono (q₂ K₂ J m own₂ {s with heap:=h₂,toks:=tk₂} ca cb S₂ I₂ O₂ (r₁.mono k₂) r₂) (fun cv s' p=>?_) fun ev s' f=>⟨f.1,f.2.start rfl⟩
 obtain ⟨K',own',v,σ',h',tk',rfl,k,I',O',rfl,q⟩:=p
 exact ⟨K',own',.bool v,σ',h',tk',rfl,fun a o z=>k _ _ (k₂ _ _ (k₁ _ _ z)),I',O',.bool _,q⟩
theorem Tst.not {e:Expr}{pos:Pos}(h:Tst G C lv σ e (fun b σ'=>Q (!b) σ') x):Tst G C lv σ (.UnaryOp .Not e pos) Q x:=fun K J m own s S I O=>
 wpAny_isTrue_Not (wpAny_mono (h K J m own s S I O) (fun b s' ⟨K',own',v,σ',h',tk',e,k,I',O',r,q⟩=>⟨K',own',!v,σ',h',tk',e,k,I',O',by rw [r],q⟩) fun _ _ f=>f)
theorem Tst.val {e:Expr}(h:Ev G C lv σ e (fun v σ'=> ∃b,v= .bool b∧Q b σ') x)(he:isTrue e C.env (eval e C.env)=(do let v←eval e C.env;standAt e.pos;holding [v] (truthy v)):=by rfl):Tst G C lv σ e Q x:=fun K J m own s S I O=>
 wpAny_isTrue_value (wpAny_mono (h K J m own s S I O) (fun v s' p=>by
  obtain ⟨K',own',v,σ',h',tk',rfl,k,I',O',r,b,rfl,q⟩:=p
  refine r.boolE ?_
  exact wpAny_truthy_bool ⟨K',own',b,σ',h',tk',rfl,k,I',O',rfl,q⟩) fun _ _ f=>f) he
noncomputable abbrev All (G:Gl)(C:Cx)(lv:List (Option AVal))(σ:Own)(op:BoolOp)(es:List Expr)(Q:Bool→Own→Prop)(x:Prop):Prop:=Run isIt G C lv σ (allTrue op es C.env) Q x
theorem Tst.boolop {op:BoolOp}{es:List Expr}{pos:Pos}(h:All G C lv σ op es Q x):Tst G C lv σ (.BoolOp op es pos) Q x:=fun K J m own s S I O=>wpAny_isTrue_BoolOp (h K J m own s S I O)
theorem All.and_nil (h:Q true σ):All G C lv σ .And [] Q x:=fun K J m own s S I O=>wpAny_allTrue_And_nil (.same I O rfl h)
theorem All.or_nil (h:Q false σ):All G C lv σ .Or [] Q x:=fun K J m own s S I O=>wpAny_allTrue_Or_nil (.same I O rfl h)
theorem All.and {e:Expr}{es:List Expr}(h:Tst G C lv σ e (fun b σ₁=>if b then All G C lv σ₁ .And es Q x else Q false σ₁) x):All G C lv σ .And (e::es) Q x:=fun K J m own s S I O=>by
 refine wpAny_allTrue_And_cons (h.seq S I O (fun K₁ own₁ bb σ₁ h₁ tk₁ a k₁ I₁ O₁ r₁ S₁ q₁=>?_) fun _ _ f=>f)
 subst r₁
 cases a
 ·exact ⟨K₁,own₁,false,σ₁,h₁,tk₁,rfl,k₁,I₁,O₁,rfl,q₁⟩
 ·exact Run.last q₁ S₁ I₁ O₁ k₁
theorem All.or {e:Expr}{es:List Expr}(h:Tst G C lv σ e (fun b σ₁=>if b then Q true σ₁ else All G C lv σ₁ .Or es Q x) x):All G C lv σ .Or (e::es) Q x:=fun K J m own s S I O=>by
 refine wpAny_allTrue_Or_cons (h.seq S I O (fun K₁ own₁ bb σ₁ h₁ tk₁ a k₁ I₁ O₁ r₁ S₁ q₁=>?_) fun _ _ f=>f)
 subst r₁
 cases a
 ·exact Run.last q₁ S₁ I₁ O₁ k₁
 ·exact ⟨K₁,own₁,true,σ₁,h₁,tk₁,rfl,k₁,I₁,O₁,rfl,q₁⟩
end
end
section
variable {G:Gl}{C:Cx}{lv:List (Option AVal)}{σ:Own}{x:Prop}{Q:AVal→Own→Prop}
theorem Ev.globR {y:Str}{pos:Pos}{v:AVal}{cv:Value}(hm:nsIn G.frag mainGlobals y=some (some cv))(hk:C.env.kindOf y=some .globalImplicit)
  (r: ∀K,(∀a o,G.frag.lookup a=some o→K a o)→VRel G.w.params K v cv) (h:Q v σ) (hd:(y==("__debug__":Str))=false:=by decide):Ev G C lv σ (.Name y pos) Q x:=fun K J m own s S I O=>by
 have F:=S.fr I
 refine Name_function_global S.kind hk (loadGlobal_global (by rw [S.hg];exact S.glo.g.keeps F.keep) (mg_of S.glo.frag S.glo.g hm) ?_) hd
 exact PostR.same I O (r K S.fk) h
theorem Ev.glob {y:Str}{pos:Pos}{cv:Value}(hm:nsIn G.frag mainGlobals y=some (some cv))(h:Q (.cst cv) σ)(hk:C.env.kindOf y=some .globalImplicit:=by rfl)
 (hd:(y==("__debug__":Str))=false:=by decide):Ev G C lv σ (.Name y pos) Q x:= .globR hm hk (fun _ _=> .cst _) h hd
theorem Ev.globI {y:Str}{pos:Pos}{i:Int}{t:Tok}(hm:nsIn G.frag mainGlobals y=some (some (.int i t)))(h:Q (.int i) σ)(hk:C.env.kindOf y=some .globalImplicit:=by rfl)
 (hd:(y==("__debug__":Str))=false:=by decide):Ev G C lv σ (.Name y pos) Q x:= .globR hm hk (fun _ _=> .int _ _) h hd
theorem Ev.built {y:Str}{pos:Pos}{cv:Value}(hm:nsIn G.frag mainGlobals y=some Option.none)(hv:bootBuiltins y=some cv)(h:Q (.cst cv) σ)(hk:C.env.kindOf y=some .globalImplicit:=by rfl)
  (hn:y≠ "__name__":=by decide) (hd:(y==("__debug__":Str))=false:=by decide):Ev G C lv σ (.Name y pos) Q x:=fun K J m own s S I O=>by
 have F:=S.fr I
 refine Name_function_global S.kind hk (loadGlobal_builtin (by rw [S.hg];exact S.glo.g.keeps F.keep) (mg_none_of S.glo.frag S.glo.g hm) (by rw [S.hb];exact S.glo.b.keeps F.keep) ((S.glo.builtins y hn).trans hv) ?_) hd
 exact PostR.same I O (.cst _) h
noncomputable abbrev Args' (G:Gl)(C:Cx)(lv:List (Option AVal))(σ:Own)(pos:Pos)(es:List Expr)(Q:List AVal→Own→Prop)(x:Prop):Prop:=Run (VRels G.w.params) G C lv σ (spliced (backTo pos (starEach es C.env))) Q x
theorem Args'.nil {pos:Pos}{Q:List AVal→Own→Prop}(h:Q [] σ):Args' G C lv σ pos [] Q x:=fun K J m own s S I O=>spliced_nil (.same I O .nil h)
theorem Args'.cons {pos:Pos}{e:Expr}{es:List Expr}{Q:List AVal→Own→Prop}(h:Ev G C lv σ e (fun v σ₁=>Args' G C lv σ₁ pos es (fun vs=>Q (v::vs)) x) x)
  (he:starEach (e::es) C.env=(false,eval e C.env)::starEach es C.env:=by rfl):Args' G C lv σ pos (e::es) Q x:=fun K J m own s S I O=>by
 refine args_cons (h.seq S I O (fun K₁ own₁ v σ₁ h₁ tk₁ cv k₁ I₁ O₁ r₁ S₁ q₁=>?_) fun _ _ f=>f) he
 refine q₁.seq (s:={s with heap:=h₁,toks:=tk₁}) S₁ I₁ O₁ (fun K₂ own₂ vs σ₂ h₂ tk₂ cvs k₂ I₂ O₂ r₂ S₂ q₂=>?_) fun ev s' f=>⟨f.1,f.2.start rfl⟩
 exact ⟨K₂,own₂,v::vs,σ₂,h₂,tk₂,rfl,fun a o z=>k₂ _ _ (k₁ _ _ z),I₂,O₂,.cons (r₁.mono k₂) r₂,q₂⟩
noncomputable def CallP (G:Gl)(C:Cx)(lv:List (Option AVal))(σ:Own)(f:Value)(vs:List AVal)(Q:AVal→Own→Prop)(x:Prop):Prop:=
 ∀K J m own s cvs,Sit G C lv K J m→Inv K J own C.L m s.heap→Owns G.w.params K σ own→VRels G.w.params K vs cvs→
  wpAny (model G.prog G.w) C.A (call f cvs) (Post G C.L m K J s Q) (fun ev s'=>x∧Flown C s ev s') s
noncomputable def Keeps (G:Gl)(f:Value):Prop:= ∀h,G.frag.In h→ ∃k,(k=Keeper.frame∨k=Keeper.machine∨k=Keeper.boundFrame)∧Looks (model G.prog G.w) h (keeperOf f) k
theorem Keeps.frag {f:Value}(e:keepIn G.frag f=true):Keeps G f:=fun h X=>keeps_K e h X
theorem Keeps.builtin {id:String}:Keeps G (.builtin id):=fun h X=>⟨_,.inr (.inl rfl),Looks.of_pure rfl⟩
theorem Keeps.type {n:String}:Keeps G (.type n):=fun h X=>⟨_,.inr (.inl rfl),Looks.of_pure rfl⟩
theorem callWith_all {M:Model}{A:Around}{E:Value→Shared→Prop}{s:Shared}{env:Env}{pos:Pos}{f:Value}{first:List Value}{args:List Expr}{QQ:Value→Shared→Prop}{P:Heap→Prop}
  (hk: ∀h,P h→ ∃k,(k=Keeper.frame∨k=Keeper.machine∨k=Keeper.boundFrame)∧Looks M h (keeperOf f) k)
  (h:wpAny M A (spliced (backTo pos (starEach args env))) (fun vs s₁=>P s₁.heap∧wpAny M A (call f (first++vs)) QQ E s₁) E s)
  (hplain:(backTo pos (starEach args env)).all (fun x=>!x.1)=true:=by rfl):wpAny M A (callWith pos f first (backTo pos (starEach args env)) []) QQ E s:=by
 generalize backTo pos (starEach args env)=l at h hplain
 have hp:l.any (·.1)=false:=by
  rw [List.all_eq_true] at hplain
  cases q:l.any (·.1) with
  |false=>rfl
  |true=>
   obtain ⟨y,hy,e⟩:=List.any_eq_true.mp q
   have:=hplain y hy
   rw [e] at this;cases this
 refine callWith_of (by rw [hp];rfl) hk ?_
 cases l with
 |nil=>
  unfold evalArgs
  show wpAny M A (spliced []>>=_) _ E s
  refine wpAny_bind (wpAny_mono h (fun vs s' h'=>?_) fun _ _ x=>x)
  refine wpAny_holding ?_
  exact wpAny_bind (wpAny_pure (wpAny_bind (wpAny_pure (wpAny_pure h'))))
 |cons y r=>
  obtain ⟨b,t⟩:=y
  have hb:b=false:=by simpa using (List.all_eq_true.mp hplain) (b,t) (List.mem_cons_self)
  subst hb
  exact PySem.Calls.evalArgs_plain h
theorem Ev.call {func:Expr}{args:List Expr}{pos:Pos}(h:Ev G C lv σ func (fun fv σ₁=> ∃f,fv= .cst f∧Keeps G f∧Args' G C lv σ₁ pos args (fun vs σ₂=>CallP G C lv σ₂ f vs Q x) x) x)
  (he:eval (.Call func args [] pos) C.env=(do callWith pos (←eval func C.env) [] (backTo pos (starEach args C.env)) (backToKw pos (keywordEach [] C.env))):=by rfl)
  (hplain:(backTo pos (starEach args C.env)).all (fun x=>!x.1)=true:=by rfl):Ev G C lv σ (.Call func args [] pos) Q x:=fun K J m own s S I O=>by
 refine Call_ (h.seq S I O (fun K₁ own₁ v σ₁ h₁ tk₁ cv k₁ I₁ O₁ r₁ S₁ q₁=>?_) fun _ _ f=>f) he
 obtain ⟨f,rfl,hkp,q⟩:=q₁
 refine r₁.cstE ?_
 refine callWith_all hkp (q.seq (s:={s with heap:=h₁,toks:=tk₁}) S₁ I₁ O₁ (fun K₂ own₂ vs σ₂ h₂ tk₂ cvs k₂ I₂ O₂ r₂ S₂ q₂=>?_) fun ev s' f=>⟨f.1,f.2.start rfl⟩) hplain
 refine ⟨S₂.glo.frag.keeps (S₂.fr I₂).keep,?_⟩
 exact wpAny_mono (q₂ K₂ J m own₂ {s with heap:=h₂,toks:=tk₂} cvs S₂ I₂ O₂ r₂) (fun cv s' p=>p.from fun a o z=>k₂ _ _ (k₁ _ _ z)) fun ev s' f=>⟨f.1,f.2.start rfl⟩
end
inductive PostS {α:Type}(G:Gl)(C:Cx)(K J:Kept)(s:Shared)(F:Kept→List (Option AVal)→Own→α→Prop)(a:α)(s':Shared):Prop where
 |mk (K' J':Kept) (own:Led) (lv:List (Option AVal)) (σ:Own) (m:Str→Option Value) (h:Heap) (tk:Nat) (e:s'={s with heap:=h,toks:=tk}) (k: ∀a o,K a o→K' a o) (j: ∀a o,J a o→a∉C.cells→J' a o) (S:Sit G C lv K' J' m) (I:Inv K' J' own C.L m h) (O:Owns G.w.params K' σ own) (q:F K' lv σ a)
noncomputable abbrev FlowF (G:Gl)(Qn:List (Option AVal)→Own→Prop)(Qr:AVal→Own→Prop)(K:Kept)(lv:List (Option AVal))(σ:Own)(f:Flow):Prop:=
 (f= .next∧Qn lv σ)∨ ∃cv v,f= .ret cv∧VRel G.w.params K v cv∧Qr v σ
inductive Held (C:Cx)(s:Shared)(ev:Value)(s':Shared):Prop where
 |mk (e t:Addr) (vs:List Value) (h:Heap) (tk:Nat) (g₂:Heap) (m:Str→Option Value) (B:Heap) (e1:ev= .ref e) (e2:s'={s with heap:=h,toks:=tk}) (b:C.base.StaysIn B) (g: ∀b o,g₂.get? b=some o→b∉(C.fenv::C.outer).filterMap (·.frame)→B.get? b=some o) (hw:Heap.HeldW B (C.fenv::C.outer) e (.ref clsFont) (.ref t) C.L h) (bt:B.get? t=none) (tu:h.TupAt t vs) (F:Fr C.h₀ C.L g₂ m) (U:g₂.UpToSlots h)
inductive Fresh (C:Cx)(s:Shared)(ev:Value)(s':Shared):Prop where
 |mk (e t:Addr) (vs:List Value) (h:Heap) (tk:Nat) (g₂:Heap) (m:Str→Option Value) (oe:Obj) (fs:Array Value) (e1:ev= .ref e) (e2:s'={s with heap:=h,toks:=tk}) (F:Fr C.h₀ C.L g₂ m) (up: ∀b o,g₂.get? b=some o→h.get? b=some o) (he:h.get? e=some oe) (c:oe.cls= .ref clsFont) (d:oe.data= .fields fs) (f0:fs[0]?=some (.ref t)) (f1:fs[1]?=some .none) (ne:g₂.get? e=none) (nt:g₂.get? t=none) (tu:h.TupAt t vs)
inductive Thrown (C:Cx)(s:Shared)(ev:Value)(s':Shared):Prop where
 |flown (h:Flown C s ev s')
 |held (h:Held C s ev s')
 |fresh (h:Fresh C s ev s')
theorem out_ground {g g₂ B:Heap}{L':Addr}{m':Str→Option Value}{fenv:Env}{l:List Env}(F:Fr g L' g₂ m')(hf:fenv.frame=some L')(h: ∀b o,g₂.get? b=some o→b∉(fenv::l).filterMap (·.frame)→B.get? b=some o):
  ∀b o,g.get? b=some o→b∉l.filterMap (·.frame)→B.get? b=some o:=fun b o e n=>h b o (F.keep b o e) fun hm=>by
 rw [List.filterMap_cons,hf] at hm
 rcases List.mem_cons.mp hm with z|z
 ·rw [z,kts_self F] at e
  cases e
 ·exact n z
theorem fresh_ground {A₀:Around}{base h₀ g₂ h:Heap}{fenv:Env}{outer:List Env}{L:Addr}{m:Str→Option Value}(K:Below A₀ base outer h₀)(F:Fr h₀ L g₂ m)(hf:fenv.frame=some L)(hk:fenv.scope.kind= .function)(up: ∀b o,g₂.get? b=some o→h.get? b=some o):
  ∃B,base.StaysIn B∧B.StaysIn h∧h.FunFrames B (fenv::outer)∧(∀b,g₂.get? b=none→B.get? b=none)∧ ∀b o,g₂.get? b=some o→b∉(fenv::outer).filterMap (·.frame)→B.get? b=some o:=by
 have hnew:base.get? L=none:=by
  cases hq:base.get? L with
  |none=>rfl
  |some o=>exact absurd (Nat.lt_of_lt_of_le (Heap.lt_size (K.stays L o hq)) F.above) (Nat.lt_irrefl _)
 have fr:g₂.FunFrames base (fenv::outer):= .cons (by rw [hk];decide) hf F.ns hnew (K.frames.of_keeps fun b o e _=>⟨o,F.keep b o e,rfl⟩)
 have hin: ∀env∈(fenv::outer),∀b,env.frame=some b→b∈(fenv::outer).filterMap (·.frame):=fun env he b hb=>List.mem_filterMap.mpr ⟨env,he,hb⟩
 refine ⟨hideAll g₂ ((fenv::outer).filterMap (·.frame)),fun b o q=>hideAll_get _ (F.keep b o (K.stays b o q)) fun hm=>?_,fun b o q=>up b o (of_hideAll _ q),?_,fun b e=>?_,fun b o e n=>hideAll_get _ e n⟩
 ·rw [(fr.mem hm).1] at q;cases q
 ·exact (funFrames_hide fr hin).of_keeps fun b o e _=>⟨o,up b o e,rfl⟩
 ·cases q:(hideAll g₂ ((fenv::outer).filterMap (·.frame))).get? b with
  |none=>rfl
  |some o=>rw [of_hideAll _ q] at e;cases e
noncomputable def RunS {α:Type}(G:Gl)(C:Cx)(lv:List (Option AVal))(σ:Own)(t:Sem α)(F:Kept→List (Option AVal)→Own→α→Prop)(x:Prop):Prop:=
 ∀K J m own s,Sit G C lv K J m→Inv K J own C.L m s.heap→Owns G.w.params K σ own→
  wpAny (model G.prog G.w) C.A t (PostS G C K J s F) (fun ev s'=>x∧Thrown C s ev s') s
noncomputable abbrev Ex (G:Gl)(C:Cx)(lv:List (Option AVal))(σ:Own)(t:Sem Flow)(Qn:List (Option AVal)→Own→Prop)(Qr:AVal→Own→Prop)(x:Prop):Prop:=RunS G C lv σ t (FlowF G Qn Qr) x
noncomputable def Sto (G:Gl)(C:Cx)(lv:List (Option AVal))(σ:Own)(t:Value→Sem Unit)(v:AVal)(Qn:List (Option AVal)→Own→Prop)(x:Prop):Prop:=
 ∀K J m own s cv,Sit G C lv K J m→Inv K J own C.L m s.heap→Owns G.w.params K σ own→VRel G.w.params K v cv→
  wpAny (model G.prog G.w) C.A (t cv) (PostS G C K J s fun _ lv σ _=>Qn lv σ) (fun ev s'=>x∧Thrown C s ev s') s
theorem Thrown.start {C:Cx}{s s₁:Shared}{h:Heap}{tk:Nat}(e:s₁={s with heap:=h,toks:=tk}){ev:Value}{s':Shared}(x:Thrown C s₁ ev s'):Thrown C s ev s':=by
 cases x with
 |flown h=>exact .flown (h.start e)
 |held h=>
  subst e
  obtain ⟨e,t,vs,h',tk',g₂,m,B,h1,h2,h3,h4,h5,h6,h7,h8,h9⟩:=h
  exact .held ⟨e,t,vs,h',tk',g₂,m,B,h1,h2,h3,h4,h5,h6,h7,h8,h9⟩
 |fresh h=>
  subst e
  obtain ⟨e,t,vs,h',tk',g₂,m,oe,fs,h1,h2,h3,h4,h5,h6,h7,h8,h9,h10,h11,h12⟩:=h
  exact .fresh ⟨e,t,vs,h',tk',g₂,m,oe,fs,h1,h2,h3,h4,h5,h6,h7,h8,h9,h10,h11,h12⟩
section
variable {G:Gl}{C:Cx}{lv:List (Option AVal)}{σ:Own}{x:Prop}{Qn:List (Option AVal)→Own→Prop}{Qr:AVal→Own→Prop}
theorem PostS.from {α:Type}{K K₁ J J₁:Kept}{s:Shared}{h₁:Heap}{tk₁:Nat}{F:Kept→List (Option AVal)→Own→α→Prop}{a:α}{s':Shared}(hk: ∀a o,K a o→K₁ a o)(hj: ∀a o,J a o→a∉C.cells→J₁ a o)
  (p:PostS G C K₁ J₁ {s with heap:=h₁,toks:=tk₁} F a s'):PostS G C K J s F a s':=
 let ⟨K',J',own',lv,σ',m,h',tk',e,k,j,S,I',O',q⟩:=p
 ⟨K',J',own',lv,σ',m,h',tk',e,fun a o z=>k _ _ (hk _ _ z),fun a o z n=>j _ _ (hj _ _ z n) n,S,I',O',q⟩
theorem RunS.seq {α:Type}{t:Sem α}{F:Kept→List (Option AVal)→Own→α→Prop}(h:RunS G C lv σ t F x)
  {K J:Kept}{m:Str→Option Value}{own:Led}{s:Shared}(S:Sit G C lv K J m) (I:Inv K J own C.L m s.heap) (O:Owns G.w.params K σ own) {QQ:α→Shared→Prop}{E:Value→Shared→Prop}
  (k: ∀K' J' own' lv' σ' m' h' tk' a,(∀a o,K a o→K' a o)→(∀a o,J a o→a∉C.cells→J' a o)→Sit G C lv' K' J' m'→Inv K' J' own' C.L m' h'→Owns G.w.params K' σ' own'→F K' lv' σ' a→QQ a {s with heap:=h',toks:=tk'})
  (kE: ∀ev s',x∧Thrown C s ev s'→E ev s'):wpAny (model G.prog G.w) C.A t QQ E s:=
 wpAny_mono (h K J m own s S I O) (fun a s' ⟨K',J',own',lv',σ',m',h',tk',e,hk,hj,S',I',O',q⟩=>e▸k K' J' own' lv' σ' m' h' tk' a hk hj S' I' O' q) fun ev s' f=>kE ev s' f
theorem RunS.last {α:Type}{t:Sem α}{F:Kept→List (Option AVal)→Own→α→Prop}{lv₁:List (Option AVal)}{σ₁:Own}(h:RunS G C lv₁ σ₁ t F x){K K₁ J J₁:Kept}{m:Str→Option Value}{own₁:Led}{s:Shared}{h₁:Heap}{tk₁:Nat}
  (S:Sit G C lv₁ K₁ J₁ m) (I:Inv K₁ J₁ own₁ C.L m h₁) (O:Owns G.w.params K₁ σ₁ own₁) (hk: ∀a o,K a o→K₁ a o) (hj: ∀a o,J a o→a∉C.cells→J₁ a o):
  wpAny (model G.prog G.w) C.A t (PostS G C K J s F) (fun ev s'=>x∧Thrown C s ev s') {s with heap:=h₁,toks:=tk₁}:=
 wpAny_mono (h K₁ J₁ m own₁ {s with heap:=h₁,toks:=tk₁} S I O) (fun _ _ p=>p.from hk hj) fun _ _ ⟨a,f⟩=>⟨a,f.start rfl⟩
theorem Ex.nil (h:Qn lv σ):Ex G C lv σ (execs [] C.env) Qn Qr x:=fun K J m own s S I O=>
 wpAny_execs_nil ⟨K,J,own,lv,σ,m,s.heap,s.toks,rfl,fun _ _ e=>e,fun _ _ e _=>e,S,I,O,.inl ⟨rfl,h⟩⟩
theorem Ex.cons {st:Stmt}{rest:List Stmt}(h:Ex G C lv σ (exec st C.env) (fun lv₁ σ₁=>Ex G C lv₁ σ₁ (execs rest C.env) Qn Qr x) Qr x):Ex G C lv σ (execs (st::rest) C.env) Qn Qr x:=fun K J m own s S I O=>by
 refine wpAny_execs_cons (h.seq S I O (fun K₁ J₁ own₁ lv₁ σ₁ m₁ h₁ tk₁ f k₁ j₁ S₁ I₁ O₁ q₁=>?_) fun _ _ f=>f)
 rcases q₁ with ⟨rfl,q⟩|⟨cv,v,rfl,r,q⟩
 ·exact q.last S₁ I₁ O₁ k₁ j₁
 ·exact ⟨K₁,J₁,own₁,lv₁,σ₁,m₁,h₁,tk₁,rfl,k₁,j₁,S₁,I₁,O₁,.inr ⟨cv,v,rfl,r,q⟩⟩
theorem Ex.ret {e:Expr}{pos:Pos}(h:Ev G C lv σ e Qr x):Ex G C lv σ (exec (.Return (some e) pos) C.env) Qn Qr x:=fun K J m own s S I O=>
 wpAny_Return_some (h.seq S I O (fun K₁ own₁ v σ₁ h₁ tk₁ cv k₁ I₁ O₁ r₁ S₁ q₁=>⟨K₁,J,own₁,lv,σ₁,m,h₁,tk₁,rfl,k₁,fun _ _ e _=>e,S₁,I₁,O₁,.inr ⟨cv,v,rfl,r₁,q₁⟩⟩) fun _ _ f=>⟨f.1,.flown f.2⟩)
theorem Ex.ite {c:Expr}{a b:List Stmt}{pos:Pos}(h:Tst G C lv σ c (fun bb σ₁=>if bb then Ex G C lv σ₁ (execs a C.env) Qn Qr x else Ex G C lv σ₁ (execs b C.env) Qn Qr x) x):Ex G C lv σ (exec (.If c a b pos) C.env) Qn Qr x:=fun K J m own s S I O=>by
 refine wpAny_If (h.seq S I O (fun K₁ own₁ bb σ₁ h₁ tk₁ a k₁ I₁ O₁ r₁ S₁ q₁=>?_) fun _ _ f=>⟨f.1,.flown f.2⟩)
 subst r₁
 cases a
 ·exact RunS.last q₁ S₁ I₁ O₁ k₁ fun _ _ e _=>e
 ·exact RunS.last q₁ S₁ I₁ O₁ k₁ fun _ _ e _=>e
theorem Ex.expr {e:Expr}{pos:Pos}(h:Ev G C lv σ e (fun _ σ₁=>Qn lv σ₁) x)(hi:interactive C.env=false:=by rfl)(hs:swapsWith e none pos.line C.env=pure false:=by rfl):Ex G C lv σ (exec (.Expr e pos) C.env) Qn Qr x:=fun K J m own s S I O=>
 wpAny_Expr_any (h.seq S I O (fun K₁ own₁ v σ₁ h₁ tk₁ cv k₁ I₁ O₁ r₁ S₁ q₁=>⟨K₁,J,own₁,lv,σ₁,m,h₁,tk₁,rfl,k₁,fun _ _ e _=>e,S₁,I₁,O₁,.inl ⟨rfl,q₁⟩⟩) fun _ _ f=>⟨f.1,.flown f.2⟩) hi hs
theorem lv_set {α:Type}{l:List (Option α)}{i j:Nat}{v w:α}(h:(l.set i (some v))[j]?=some (some w)):(j=i∧w=v)∨(j≠i∧l[j]?=some (some w)):=by
 rw [List.getElem?_set] at h
 split at h
 ·rename_i e
  subst e
  split at h
  ·simp at h
   exact .inl ⟨rfl,h.symm⟩
  ·simp at h
 ·rename_i e
  exact .inr ⟨fun q=>e q.symm,h⟩
theorem nodup_names {names:List (Str×NameKind)}(hn:(names.map (·.1)).Nodup){i j:Nat}{y z:Str}{k k':NameKind}(hi:names[i]?=some (y,k))(hj:names[j]?=some (z,k'))(h:j≠i):z≠y:=by
 rintro rfl
 have e1:(names.map (·.1))[i]?=some z:=by simp [hi]
 have e2:(names.map (·.1))[j]?=some z:=by simp [hj]
 obtain ⟨h1,h1'⟩:=List.getElem?_eq_some_iff.mp e1
 obtain ⟨h2,h2'⟩:=List.getElem?_eq_some_iff.mp e2
 exact h (((List.getElem_inj hn).mp (h2'.trans h1'.symm)))
noncomputable def Kept.upd (J:Kept)(I:Addr)(o:Obj):Kept:=fun a o'=>(a≠I∧J a o')∨(a=I∧o'=o)
theorem Kept.upd_self {J:Kept}{I:Addr}{o:Obj}:J.upd I o I o:= .inr ⟨rfl,rfl⟩
theorem Kept.upd_other {J:Kept}{I a:Addr}{o o':Obj}(h:J a o')(n:a≠I):J.upd I o a o':= .inl ⟨n,h⟩
theorem Inv.updJ {K J:Kept}{l:Led}{L:Addr}{m:Str→Option Value}{h h':Heap}{a:Addr}{o o₀:Obj}(I:Inv K J l L m h)(hk: ∀b ob,b≠a→h.get? b=some ob→h'.get? b=some ob)(h0:J a o₀)(ho:h'.get? a=some o):Inv K (J.upd a o) l L m h':=by
 have aL:a≠L:=fun q=>I.jL o₀ (q▸h0)
 refine ⟨fun b o' e=>hk b o' (fun q=>I.kj b o' o₀ e (q▸h0)) (I.k b o' e),?_,fun p hp=>hk _ _ (fun q=>I.oj p hp o₀ (q▸h0)) (I.ow p hp),I.nodup,I.ok,?_,?_,I.ns.at' fun o e=>hk _ o (Ne.symm aL) e,I.kL,?_,I.oL⟩
 ·rintro b o' (⟨n,e⟩|⟨rfl,rfl⟩)
  ·exact hk b o' n (I.j b o' e)
  ·exact ho
 ·rintro p hp o' (⟨n,e⟩|⟨e,rfl⟩)
  ·exact I.oj p hp o' e
  ·exact I.oj p hp o₀ (e▸h0)
 ·rintro b o' o'' q (⟨n,e⟩|⟨rfl,rfl⟩)
  ·exact I.kj b o' o'' q e
  ·exact I.kj _ _ _ q h0
 ·rintro o' (⟨n,e⟩|⟨e,_⟩)
  ·exact I.jL o' e
  ·exact aL e.symm
theorem Sto.bind {i:Nat}{y:Str}{k:NameKind}{v:AVal}(hn:C.env.scope.names[i]?=some (y,k))(hk:C.env.kindOf y=some .local∧C.env.locals=C.L∨(C.env.kindOf y=some .cell∧ ∃c,C.env.cells.lookup y=some c∧C.env.locals=C.L))
  (hd:(y==("__debug__":Str))=false)
  (h:Qn (lv.set i (some v)) σ):Sto G C lv σ (fun cv=>storeName C.env y cv) v Qn x:=fun K J m own s cv S I O r=>by
 rcases hk with ⟨hk,hL⟩|⟨hk,c,hcl,hL⟩
 ·refine wpAny_storeName_local hk (m:=m) (hL▸I.ns) (fun h' hn' hs=>?_) (by rw [S.kind];rfl)
  rw [hL] at hn' hs
  have keep: ∀b o,b≠C.L→s.heap.get? b=some o→h'.get? b=some o:=fun b o n e=>(hs.2 b n).trans e
  refine ⟨K,J,own,_,σ,_,h',_,rfl,fun _ _ e=>e,fun _ _ e _=>e,{S with lv:=?_},{I with k:=fun a o e=>keep a o (fun q=>I.kL o (q▸e)) (I.k a o e),j:=fun a o e=>keep a o (fun q=>I.jL o (q▸e)) (I.j a o e),ow:=fun p hp=>keep _ _ (I.oL p hp) (I.ow p hp),ns:=hn'},O,h⟩
  intro j z k' v' hz hv
  rcases lv_set hv with ⟨rfl,rfl⟩|⟨hj,hv⟩
  ·rw [hn] at hz
   cases hz
   exact ⟨cv,⟨hd,.inl ⟨hk,.inl ⟨hL,by simp⟩⟩⟩,r⟩
  ·have:z≠y:=nodup_names S.nd hn hz hj
   exact (S.lv j z k' v' hz hv).imp fun _=>And.imp (And.imp id<|Or.imp (And.imp id<|Or.imp (And.imp id fun e=>by simp [this,e]) id) id) id
 ·refine (S.cj y c hk hcl).elim fun o₀ h₀=>h₀.elim fun v₀ h₀=>?_
  have hj₀:=h₀.1
  refine wpAny_storeName_cell S.kind hk hcl ⟨o₀,I.j _ _ hj₀,h₀.2⟩ fun h' hc' hs=>hc'.elim fun o₁ h₁=>?_
  have ac (z) (h: ∃o v₀,J z o∧o.data= .cell v₀): ∃o v₀,(J.upd c o₁) z o∧o.data= .cell v₀:=by
   by_cases q:z=c
   ·exact ⟨o₁,_,.inr ⟨q,rfl⟩,h₁.2⟩
   ·exact h.imp fun _=>Exists.imp fun _=>And.imp (fun e=> .inl ⟨q,e⟩) id
  refine ⟨K,J.upd c o₁,own,_,σ,m,h',s.toks,rfl,fun _ _ e=>e,fun a o e n=> .inl ⟨fun q=>n (q▸S.cc y c hk hcl hL),e⟩,{S with lv:=?_,keep:=?_,cj:=fun z c' hz hl=>ac _ (S.cj z c' hz hl),cs:=fun c' hc'=>ac _ (S.cs c' hc')},
   I.updJ (fun b o n e=>(hs.2 b n).trans e) hj₀ h₁.1,O,h⟩
  ·exact fun a o e=>(S.keep a o e).imp id fun q=> .inl ⟨fun z=>(nomatch e.symm.trans ((congrArg C.h₀.get? z).trans (S.ch _ (S.cc y _ hk hcl hL)))),q⟩
  ·intro j z k' v' hz hv
   rcases lv_set hv with ⟨rfl,rfl⟩|⟨hj,hv⟩
   ·rw [hn] at hz
    cases hz
    exact ⟨cv,⟨hd,.inr ⟨hk,c,o₁,hcl,.inr ⟨rfl,rfl⟩,h₁.2⟩⟩,r⟩
   ·have hzy:z≠y:=nodup_names S.nd hn hz hj
    exact (S.lv j z k' v' hz hv).imp fun _=>And.imp (And.imp id<|Or.imp (And.imp id<|Or.imp id fun q=>q.elim fun o q=>q.elim fun _ q=>q.elim fun _ q=>absurd (hL▸q.1) (I.jL o))
     (And.imp id<|Exists.imp fun c'=>Exists.imp fun o q=>⟨q.1,.inl ⟨fun e=>hzy (S.cnd z y _ q.1 (e▸hcl)),q.2.1⟩,q.2.2⟩)) id
theorem Ex.assign {y:Str}{p pos:Pos}{e:Expr}(i:Nat){k:NameKind}(hn:C.env.scope.names[i]?=some (y,k))
  (hk:C.env.kindOf y=some .local∧C.env.locals=C.L∨(C.env.kindOf y=some .cell∧ ∃c,C.env.cells.lookup y=some c∧C.env.locals=C.L))
  (h:Ev G C lv σ e (fun v σ₁=>Qn (lv.set i (some v)) σ₁) x) (hs:swapsWith e (some (.Name y p)) pos.line C.env=pure false:=by rfl) (hd:(y==("__debug__":Str))=false:=by decide):
  Ex G C lv σ (exec (.Assign [.Name y p] e pos) C.env) Qn Qr x:=fun K J m own s S I O=>by
 refine wpAny_Assign_Name (h.seq S I O (fun K₁ own₁ v σ₁ h₁ tk₁ cv k₁ I₁ O₁ r₁ S₁ q₁=>?_) fun _ _ f=>⟨f.1,.flown f.2⟩) hs
 refine wpAny_mono (Sto.bind (x:=x) hn hk hd q₁ K₁ J m own₁ {s with heap:=h₁,toks:=tk₁} cv S₁ I₁ O₁ r₁) (fun _ s' p=>?_) fun _ _ f=>⟨f.1,f.2.start rfl⟩
 obtain ⟨K',J',own',lv',σ',m',h',tk',e,k,j,S',I',O',q⟩:=p
 exact ⟨K',J',own',lv',σ',m',h',tk',e,fun a o z=>k _ _ (k₁ _ _ z),j,S',I',O',.inl ⟨rfl,q⟩⟩
end
theorem bindL_other {kindOf:Str→Option NameKind}: ∀{binds:List (Str×Value)}{m:Str→Option Value}{y:Str},y∉binds.map (·.1)→bindL kindOf binds m y=m y
 | [],_,_,_=>rfl
 |(n,v)::r,m,y,h=>by
  simp only [List.map_cons,List.mem_cons,not_or] at h
  unfold bindL
  refine rwG (bindL_other h.2 ..) ?_
  split
  ·simp [h.1]
  ·rfl
theorem bindL_get {kindOf:Str→Option NameKind}: ∀{binds:List (Str×Value)}{m:Str→Option Value}{y:Str}{v:Value},(binds.map (·.1)).Nodup→(y,v)∈binds→kindOf y=some .local→bindL kindOf binds m y=some v
 |(n,w)::r,m,y,v,hn,hm,hk=>by
  simp only [List.map_cons,List.nodup_cons] at hn
  unfold bindL
  rcases List.mem_cons.mp hm with e|hm
  ·cases e
   refine rwG (bindL_other hn.1 ..) ?_;refine rwG (if_pos hk ..) ?_
   simp
  ·exact bindL_get hn.2 hm hk
theorem bindC_other {kindOf:Str→Option NameKind}: ∀{binds:List (Str×Value)}{m:Str→Option Value}{y:Str},y∉binds.map (·.1)→bindC kindOf binds m y=m y
 | [],_,_,_=>rfl
 |(n,v)::r,m,y,h=>by
  simp only [List.map_cons,List.mem_cons,not_or] at h
  unfold bindC
  refine rwG (bindC_other h.2 ..) ?_
  split
  ·rfl
  ·simp [h.1]
theorem bindC_get {kindOf:Str→Option NameKind}: ∀{binds:List (Str×Value)}{m:Str→Option Value}{y:Str}{v:Value},(binds.map (·.1)).Nodup→(y,v)∈binds→kindOf y=some .cell→bindC kindOf binds m y=some v
 |(n,w)::r,m,y,v,hn,hm,hk=>by
  simp only [List.map_cons,List.nodup_cons] at hn
  unfold bindC
  rcases List.mem_cons.mp hm with e|hm
  ·cases e
   refine rwG (bindC_other hn.1 ..) ?_;refine rwG (if_neg (by rw [hk];decide) ..) ?_
   simp
  ·exact bindC_get hn.2 hm hk
noncomputable abbrev Cx.callee (C:Cx)(qual:Str)(scope:Scope)(f:Addr)(cdv:Value)(g:Heap)(L':Addr):Cx:=
 {A:=C.A.deeper (envOfC qual scope L' f cdv),env:=envOfC qual scope L' f cdv,fenv:=envOfC qual scope L' f cdv,outer:=C.fenv::C.outer,A₀:=C.A,base:=C.base,h₀:=g,L:=L',rk:=C.rk - 1,cells:=(cellsFrom (L'+1) scope.names []).map (·.2)}
theorem Inv.news {K J:Kept}{own:Led}{L:Addr}{m:Str→Option Value}{h h₀:Heap}(I:Inv K J own L m h)(hk: ∀a o,h₀.get? a=some o→K a o∨J a o):News h₀ L h own:=fun p hp=>by
 refine ⟨I.ow p hp,I.oL p hp,?_⟩
 cases q:h₀.get? p.1 with
 |none=>rfl
 |some o=>exact ((hk _ _ q).elim (I.ok p hp o) (I.oj p hp o)).elim
set_option genSizeOf false in
set_option genInjectivity false in
structure DefAt (G:Gl)(f:Addr) where
 name:Str
 qual:Str
 params:Arguments
 body:List Stmt
 scope:Scope
 dV:Value
 kV:Value
 doc:Value
 pm:Value
 an:Option Addr
 cdv:Value
 ct:Value
 oc:Value
 od:Option Addr
 osl:Array (Option Value)
noncomputable abbrev DefAt.cx {G:Gl}{f:Addr}(D:DefAt G f)(C:Cx)(g:Heap)(L':Addr):Cx:=C.callee D.qual D.scope f D.cdv g L'
noncomputable abbrev DefAt.fn {G:Gl}{f:Addr}(D:DefAt G f):FuncData:=fnOf D.name D.qual D.params D.body D.scope D.dV D.kV D.doc D.pm D.an D.cdv D.ct
structure DefAt.Ok {G:Gl}{f:Addr}(D:DefAt G f)(ps:List Str):Prop where
 at_:G.frag.lookup f=some ⟨D.oc,D.od,.func D.fn,D.osl⟩
 code:codeIn G.frag D.cdv D.qual=true
 hco:D.scope.isCoroutine=false
 hgen:D.scope.isGenerator=false
 kind:D.scope.kind= .function
 names:(D.scope.names.take ps.length).map (·.1)=ps
 nd:(D.scope.names.map (·.1)).Nodup
 kinds: ∀y∈ps,D.scope.names.lookup y=some .local∨D.scope.names.lookup y=some .cell
 cells: ∀L,((cellsFrom L D.scope.names []).map (·.1)).Nodup
 deb: ∀y∈D.scope.names.map (·.1),(y==("__debug__":Str))=false
 has: ∀y L,D.scope.names.lookup y=some .cell→((cellsFrom L D.scope.names []).lookup y).isSome=true
theorem cells_inj {cs:List (Str×Addr)}(h:cs.Pairwise fun x y=>x.2≠y.2){x y:Str}{c:Addr}(hx:cs.lookup x=some c)(hy:cs.lookup y=some c):x=y:=
 name_of_addr h (mem_of_lookup hx) (mem_of_lookup hy)
theorem lookup_mem_map {α:Type}{cs:List (Str×α)}{x:Str}{c:α}(h:cs.lookup x=some c):c∈cs.map (·.2):=List.mem_map.mpr ⟨_,mem_of_lookup h,rfl⟩
theorem lookup_of_nodup {α:Type}{cs:List (Str×α)}{x:Str}{c:α}(hm:(x,c)∈cs)(hn:(cs.map (·.1)).Nodup):cs.lookup x=some c:=by
 induction cs with
 |nil=>cases hm
 |cons p r ih=>
  rw [List.map_cons,List.nodup_cons] at hn
  rw [List.lookup_cons]
  rcases List.mem_cons.mp hm with rfl|hm
  ·rw [beq_self_eq_true]
  ·rw [show (x==p.1)=false from beq_eq_false_iff_ne.mpr fun q=>hn.1 (q▸List.mem_map.mpr ⟨_,hm,rfl⟩)]
   exact ih hm hn.2
section
variable {G:Gl}{C:Cx}{lv:List (Option AVal)}{σ:Own}{x:Prop}{Q:AVal→Own→Prop}
inductive Entry (G:Gl)(C:Cx){f:Addr}(D:DefAt G f)(vs:List AVal)(K J:Kept)(m:Str→Option Value)(own:Led)(s:Shared)(L':Addr)(h₁:Heap):Prop where
 |mk (g:Heap) (J':Kept) (m':Str→Option Value) (hg1: ∀a o,g.get? a=some o→s.heap.get? a=some o) (hg2: ∀a o,s.heap.get? a=some o→a∉own.map (·.1)→g.get? a=some o) (BG:Below C.A C.base (C.fenv::C.outer) g) (FG:Fr C.h₀ C.L g m)
  (S:Sit G (D.cx C g L') (vs.map some++List.replicate (D.scope.names.length - vs.length) none) K J' m') (I:Inv K J' own L' m' h₁) (jj: ∀a o,J a o→J' a o∧a∉(D.cx C g L').cells) (jl: ∀o,s.heap.get? C.L=some o→J' C.L o∧C.L∉(D.cx C g L').cells)
theorem entry {f:Addr}{D:DefAt G f}{ps:List Str}(ok:D.Ok ps){vs:List AVal}(hn:vs.length=ps.length)(hrk:1≤C.rk){K J:Kept}{m:Str→Option Value}{own:Led}{s:Shared}{cvs:List Value}(S:Sit G C lv K J m)(I:Inv K J own C.L m s.heap)(r:VRels G.w.params K vs cvs)
  {L':Addr}(hLdef:s.heap.objs.size=L') {h₁:Heap}{tk:Nat}(hx:InCallC s (envOfC D.qual D.scope L' f D.cdv).locals (bindL (envOfC D.qual D.scope L' f D.cdv).kindOf (ps.zip cvs) fun _=>none) (envOfC D.qual D.scope L' f D.cdv).cells (bindC (envOfC D.qual D.scope L' f D.cdv).kindOf (ps.zip cvs) fun _=>none) {s with heap:=h₁,toks:=tk}) (hk₁: ∀b o,s.heap.get? b=some o→h₁.get? b=some o):Entry G C D vs K J m own s L' h₁:=by
 have F:=S.fr I
 have N:=I.news S.keep
 obtain ⟨FG,BG,st, -⟩:=groundX (R:=fun _ _=>True) S.below F N S.hA S.hf S.hke
 generalize hgdef:hideAll s.heap (own.map (·.1))=g at FG BG st
 have hg1: ∀a o,g.get? a=some o→s.heap.get? a=some o:=fun a o e=>of_hideAll _ (hgdef▸e)
 have hg2: ∀a o,s.heap.get? a=some o→a∉own.map (·.1)→g.get? a=some o:=fun a o e n=>hgdef▸hideAll_get _ e n
 have hgo: ∀p∈own,g.get? p.1=none:=fun p hp=>hgdef▸hideAll_none _ (List.mem_map_of_mem hp)
 have nK: ∀a o,K a o→a∉own.map (·.1):=fun a o e q=>by
  obtain ⟨p,hp,rfl⟩:=List.mem_map.mp q
  exact I.ok p hp o e
 have nJ: ∀a o,J a o→a∉own.map (·.1):=fun a o e q=>by
  obtain ⟨p,hp,rfl⟩:=List.mem_map.mp q
  exact I.oj p hp o e
 have nL:C.L∉own.map (·.1):=fun q=>by
  obtain ⟨p,hp,e⟩:=List.mem_map.mp q
  exact I.oL p hp e
 have hd1:=S.depth
 have hu1:=S.units
 have hlen:cvs.length=vs.length:=r.length
 have hzip:((ps.zip cvs).map (·.1))=ps:=List.map_fst_zip (by lia)
 have pnd:ps.Nodup:=by
  rw [←ok.names,List.map_take]
  exact ok.nd.sublist (List.take_sublist _ _)
 have hsz: ∀c o,s.heap.get? c=some o→c<L':=fun c o q=>hLdef▸Heap.lt_size q
 have sL':s.heap.get? L'=none:=by
  cases q:s.heap.get? L' with
  |none=>rfl
  |some o=>exact absurd (hsz _ _ q) (Nat.lt_irrefl _)
 let cl:=(cellsFrom (L'+1) D.scope.names []).map (·.2)
 have clNone: ∀c∈cl,s.heap.get? c=none∧c≠L':=fun c hc=>by
  obtain ⟨⟨n,c'⟩,hm,rfl⟩:=List.mem_map.mp hc
  have hlt:L'<c':=hx.above n c' hm
  refine ⟨?_,Nat.ne_of_gt hlt⟩
  cases q:s.heap.get? c' with
  |none=>rfl
  |some o=>exact absurd (hsz _ _ q) (Nat.lt_asymm hlt)
 let J':Kept:=fun a o=>(g.get? a=some o∧ ∀o',¬K a o')∨(a∈cl∧h₁.get? a=some o)
 have nocl: ∀a o,s.heap.get? a=some o→a∉cl:=fun a o e q=>by
  have:=(clNone a q).1
  rw [e] at this;cases this
 have hgsz:g.objs.size≤L':=Nat.le_of_eq (by rw [←hgdef,hideAll_size,hLdef])
 have S':Sit G (D.cx C g L') (vs.map some++List.replicate (D.scope.names.length - vs.length) none) K J' (bindL (envOfC D.qual D.scope L' f D.cdv).kindOf (ps.zip cvs) fun _=>none):=by
  refine ⟨BG,Around.frames_deeper S.hA,rfl,rfl,ok.kind,ok.kind,rfl,rfl,S.hh,hgsz,fun a o e=>?_,S.fk,S.glo.keeps st,fun i y k v h1 h2=>?_,ok.nd,fun y z c h1 h2=>cells_inj hx.apart h1 h2,fun y c _ h2 _=>lookup_mem_map h2,fun c hc=>?_,fun y c _ h2=>?_,fun c hc=>?_,?_,?_,?_⟩
  ·by_cases q: ∃o',K a o'
   ·obtain ⟨o',q⟩:=q
    have e1:=I.k _ _ q
    rw [hg1 _ _ e] at e1
    cases e1
    exact .inl q
   ·exact .inr (.inl ⟨e,fun o' z=>q ⟨o',z⟩⟩)
  ·have hi:i<vs.length:=by
    rcases Nat.lt_or_ge i vs.length with q|q
    ·exact q
    ·rw [List.getElem?_append_right (by simpa using q)] at h2
     rw [List.getElem?_replicate] at h2
     split at h2<;>simp at h2
   rw [List.getElem?_append_left (by simpa using hi),List.getElem?_map] at h2
   have hv:vs[i]?=some v:=by
    cases q:vs[i]? with
    |none=>rw [q] at h2;simp at h2
    |some w=>rw [q] at h2;simp at h2;rw [h2]
   obtain ⟨cv,hcv,rv⟩:=r.get hv
   have hy:ps[i]?=some y:=by
    have:=congrArg (·[i]?) ok.names
    simp only [List.getElem?_map,List.getElem?_take] at this
    have h1':D.scope.names[i]?=some (y,k):=h1
    rw [if_pos (by exact Nat.lt_of_lt_of_eq hi hn),h1'] at this
    exact this.symm
   have hm:(y,cv)∈ps.zip cvs:=by
    refine List.mem_of_getElem? (i:=i) ?_
    rw [List.getElem?_zip_eq_some]
    exact ⟨hy,hcv⟩
   have hnd:((ps.zip cvs).map (·.1)).Nodup:=by rw [hzip];exact pnd
   refine ⟨cv,⟨ok.deb y (List.mem_map.mpr ⟨_,List.mem_of_getElem? h1,rfl⟩),?_⟩,rv⟩
   rcases ok.kinds y (List.mem_of_getElem? hy) with q|q
   ·exact .inl ⟨q,.inl ⟨rfl,bindL_get hnd hm q⟩⟩
   ·have hs:=ok.has y (L'+1) q
    refine hideG fun M kM=>?_
    obtain ⟨c,hc⟩:=Option.isSome_iff_exists.mp hs
    obtain ⟨o,ho,hd⟩:=hx.cell y c hc
    refine kM ?_
    clear kM
    refine .inr ⟨q,c,o,hc,.inr ⟨lookup_mem_map hc,ho⟩,?_⟩
    rw [hd,bindC_get hnd hm q]
  ·cases q:g.get? c with
   |none=>rfl
   |some o=>
    have:=(clNone c hc).1
    rw [hg1 _ _ q] at this;cases this
  ·obtain ⟨o,ho,hd⟩:=hx.cell y c h2
   exact ⟨o,_,.inr ⟨lookup_mem_map h2,ho⟩,hd⟩
  ·obtain ⟨⟨n,c'⟩,hm,rfl⟩:=List.mem_map.mp hc
   obtain ⟨o,ho,hd⟩:=hx.cell n c' (lookup_of_nodup hm (ok.cells _))
   exact ⟨o,_,.inr ⟨hc,ho⟩,hd⟩
  ·exact S.guards
  ·show C.A.depth+1+4*(C.rk - 1)<recursionLimit
   lia
  ·show C.A.units+3+16*(C.rk - 1)+64<cLine
   lia
 have I':Inv K J' own L' (bindL (envOfC D.qual D.scope L' f D.cdv).kindOf (ps.zip cvs) fun _=>none) h₁:=by
  refine ⟨fun a o e=>hk₁ _ _ (I.k _ _ e),fun a o e=>e.elim (fun q=>hk₁ _ _ (hg1 _ _ q.1)) (·.2),fun p hp=>hk₁ _ _ (I.ow p hp),I.nodup,I.ok,fun p hp o e=>?_,fun a o o' e q=>?_,hx.toInCall.ns,fun o e=>?_,fun o e=>?_,fun p hp q=>?_⟩
  ·rcases e with ⟨e,_⟩|⟨e,_⟩
   ·rw [hgo p hp] at e;cases e
   ·exact nocl _ _ (I.ow p hp) e
  ·rcases q with ⟨_,q⟩|⟨q,_⟩
   ·exact q o e
   ·exact nocl _ _ (I.k _ _ e) q
  ·rw [I.k _ _ e] at sL';cases sL'
  ·rcases e with ⟨e,_⟩|⟨e,_⟩
   ·rw [hg1 _ _ e] at sL';cases sL'
   ·exact (clNone _ e).2 rfl
  ·have:=I.ow p hp
   rw [q,sL'] at this;cases this
 exact ⟨g,J',_,hg1,hg2,BG,FG,S',I',fun a o e=>⟨.inl ⟨hg2 _ _ (I.j _ _ e) (nJ _ _ e),fun o' z=>I.kj _ _ _ z e⟩,nocl _ _ (I.j _ _ e)⟩,fun o e=>⟨.inl ⟨hg2 _ _ e nL,fun o' z=>I.kL o' z⟩,nocl _ _ e⟩⟩
theorem back_post {f : Addr} {D : DefAt G f} {K J J' : Kept} {m : Str → Option Value} {own : Led} {s : Shared} {g : Heap} {L' : Addr} {h₁ : Heap} {tk : Nat} (ns : s.heap.Ns C.L m) (I : Inv K J own C.L m s.heap)
  (jj : ∀ a o,J a o → J' a o ∧ a ∉ (D.cx C g L').cells) (jl : ∀ o,s.heap.get? C.L = some o → J' C.L o ∧ C.L ∉ (D.cx C g L').cells) {fl : Flow} {s₂ : Shared}
  (p : PostS G (D.cx C g L') K J' {s with heap:=h₁,toks:=tk} (FlowF G (fun _ σ'=>Q .none σ') Q) fl s₂) : Post G C.L m K J s Q (match (generalizing:=false) fl with | .ret v=>v | _=> .none) s₂:=by
 obtain ⟨K₂,J₂,own₂,lv₂,σ₂,m₂,h₂,tk₂,rfl,hk,hj,S₂,I₂,O₂,q⟩ :=p
 have Jsub : ∀ a o,J a o → J₂ a o:=fun a o e=>hj a o (jj a o e).1 (jj a o e).2
 refine hideG fun M kM=>?_
 obtain ⟨oL,es,ep,hL1,hL2⟩ :=ns
 refine kM ?_
 clear kM
 have JL : J₂ C.L oL:=hj _ _ (jl _ hL1).1 (jl _ hL1).2
 have fin : Inv K₂ J own₂ C.L m h₂:=⟨I₂.k,fun a o e=>I₂.j _ _ (Jsub _ _ e),I₂.ow,I₂.nodup,I₂.ok,fun p hp o e=>I₂.oj p hp o (Jsub _ _ e),fun a o o' e z=>I₂.kj a o o' e (Jsub _ _ z),⟨oL,es,ep,I₂.j _ _ JL,hL2⟩,fun o e=>I₂.kj _ _ _ e JL,I.jL,fun p hp e=>I₂.oj p hp oL (e ▸ JL)⟩
 rcases q with ⟨rfl,q⟩ | ⟨cv,v,rfl,rv,q⟩
 ·exact ⟨K₂,own₂,.none,σ₂,h₂,tk₂,rfl,hk,fin,O₂,.none,q⟩
 ·exact ⟨K₂,own₂,v,σ₂,h₂,tk₂,rfl,hk,fin,O₂,rv,q⟩
theorem back_thrown {f:Addr}{D:DefAt G f}(hkind:D.scope.kind= .function){m:Str→Option Value}{s:Shared}{g:Heap}{L':Addr}{h₁:Heap}{tk:Nat}(hA:C.A.frames=some (C.fenv::C.outer))(BG:Below C.A C.base (C.fenv::C.outer) g)(FG:Fr C.h₀ C.L g m)(hx':x)
  {R:Value→Shared→Prop}(hRE: ∀ev s',x∧Flown C s ev s'→R ev s') {ev:Value}{s₂:Shared}(th:Thrown (D.cx C g L') {s with heap:=h₁,toks:=tk} ev s₂):
  wpAny (model G.prog G.w) (C.A.deeper (envOfC D.qual D.scope L' f D.cdv)) (leaving (envOfC D.qual D.scope L' f D.cdv) ev) (fun _ s''=>R ev s'') R s₂:=by
 cases th with
 |flown fl=>
  obtain ⟨e,t,vs',h',tk',g₂,m',rfl,rfl,⟨⟨B,hB,hBG,hl,hfl,hnew⟩,htup⟩,F₂,U⟩:=fl
  exact wpAny_leaves_onW (Around.frames_deeper hA) rfl hfl fun h'' x1 x2=>hRE _ _ ⟨hx',e,t,vs',h'',tk',g,m,rfl,rfl,⟨⟨B,hB,out_ground F₂ rfl hBG,fun q hq=>(List.not_mem_nil hq).elim,x1,hnew⟩,htup.of_slots x2⟩,FG,(Heap.UpToSlots.of_keeps F₂.keep).trans (U.trans x2)⟩
 |held fl=>
  obtain ⟨e,t,vs',h',tk',g₂,m',B,rfl,rfl,hB,hBG,hfl,hnew,htup,F₂,U⟩:=fl
  unfold leaving
  refine wpAny_bind (wpAny_noteFrame_againW rfl hfl.2.2.2 ?_)
  refine wpAny_landsW hfl fun h'' x1 x2=>?_
  refine hideG fun M kM=>?_
  obtain ⟨k1,k2,⟨_,_,k3⟩,k4⟩:=x1
  refine kM ?_
  clear kM
  exact hRE _ _ ⟨hx',e,t,vs',h'',tk',g,m,rfl,rfl,⟨⟨B,hB,out_ground F₂ rfl hBG,fun q hq=>(List.not_mem_nil hq).elim,⟨k1,k2,k3,k4⟩,hnew⟩,htup.of_slots x2⟩,FG,(Heap.UpToSlots.of_keeps F₂.keep).trans (U.trans x2)⟩
 |fresh fl=>
  obtain ⟨e,t,vs',h',tk',g₂,m',oe,fs,rfl,rfl,F₂,up,he,hc,hd,hf0,hf1,hne,hnt,htup⟩:=fl
  refine hideG fun M kM=>?_
  obtain ⟨B,b1,b2,b3,b4,b5⟩:=fresh_ground (fenv:=envOfC D.qual D.scope L' f D.cdv) BG F₂ rfl hkind up
  refine kM ?_
  clear kM
  refine wpAny_leaving_firstW (oe:=oe) (Around.frames_deeper hA) b3 rfl he b2 (b4 _ hne) hd hf1 hf0 fun h'' hL=>?_
  refine hideG fun M kM=>?_
  obtain ⟨k1,⟨_,_,k2⟩,k3,k4⟩:=hL
  refine kM ?_
  clear kM
  rw [hc] at k3
  exact hRE _ _ ⟨hx',e,t,vs',h'',tk',g,m,rfl,rfl,⟨⟨B,b1,out_ground F₂ rfl b5,fun q hq=>(List.not_mem_nil hq).elim,⟨k1,b4 _ hne,k2,k3⟩,b4 _ hnt⟩,htup.of_slots k4⟩,FG,(Heap.UpToSlots.of_keeps F₂.keep).trans ((Heap.UpToSlots.of_keeps up).trans k4)⟩
theorem CodeP.introD {f:Addr}{D:DefAt G f}{ps:List Str}(ok:D.Ok ps){vs:List AVal}(hn:vs.length=ps.length)(hrk:1≤C.rk)
  (hb: ∀(cvs:List Value) (A:Around) (s:Shared) (Q:List (Str×Value)→Shared→Prop) (E:Value→Shared→Prop),G.frag.In s.heap→cvs.length=vs.length→Q (ps.zip cvs) s→wpAny (model G.prog G.w) A (bindArgs D.fn ⟨cvs,[]⟩) Q E s)
  (h: ∀g L',Ex G (D.cx C g L') (vs.map some++List.replicate (D.scope.names.length - vs.length) none) σ (execs D.body (envOfC D.qual D.scope L' f D.cdv)) (fun _ σ'=>Q .none σ') Q x):
  ∀K J m own s cvs (R:Result→Shared→Prop),Sit G C lv K J m→Inv K J own C.L m s.heap→Owns G.w.params K σ own→VRels G.w.params K vs cvs→
  (∀cv s',Post G C.L m K J s Q cv s'→R (.ok (.ret cv)) s')→(∀ev s',x∧Flown C s ev s'→R (.error ev) s')→codeAny (model G.prog G.w) C.A (.call (.ref f) ⟨cvs,[]⟩) R s:=by
 intro K J m own s cvs R S I O r hR hRE
 have X:=S.glo.frag.keeps (S.fr I).keep
 have hlen:cvs.length=vs.length:=r.length
 have hd1:=S.depth
 refine codeAny_call_function (fd:=D.fn) (by exact Nat.lt_of_add_right_lt hd1) (X _ _ ok.at_) rfl ok.hco ok.hgen rfl (codeRec_of X ok.code) ?_
 refine hb cvs _ s _ _ X hlen ?_
 have hzip:((ps.zip cvs).map (·.1))=ps:=List.map_fst_zip (by lia)
 refine wpAny_newFunctionEnv_cells ok.kind (fun y hy=>?_) fun env' he s' hx=>?_
 ·have hy':y.1∈ps:=hzip▸List.mem_map_of_mem hy
  exact (ok.kinds _ hy').imp id fun q=>⟨q,ok.has _ _ q⟩
 subst he
 refine ⟨(S.glo.nolimit.keeps (S.fr I).keep).keeps hx.toInCall.keep,codeAny_func ?_⟩
 obtain ⟨h₁,tk,rfl,hk₁⟩:=hx.done
 generalize hLdef:s.heap.objs.size=L' at hx
 refine hideG fun M kM=>?_
 obtain ⟨g,J',m',hg1,hg2,BG,FG,S',I',jj,jl⟩:=entry ok hn hrk S I r hLdef hx hk₁
 refine kM ?_
 clear kM
 exact wpAny_mono (h g L' K J' _ own {s with heap:=h₁,toks:=tk} S' I' O) (fun fl s₂ p=>hR _ _ (back_post I.ns I jj jl p)) fun ev s₂ f=>back_thrown ok.kind S.hA BG FG f.1 (fun ev s' q=>hRE ev s' q) f.2
theorem CodeP.intro {f:Addr}{D:DefAt G f}{ps:List Str}(ok:D.Ok ps){vs:List AVal}(hn:vs.length=ps.length)(hrk:1≤C.rk)
  (hb: ∀cvs:List Value,cvs.length=vs.length→bindArgs D.fn ⟨cvs,[]⟩=pure (ps.zip cvs))
  (h: ∀g L',Ex G (D.cx C g L') (vs.map some++List.replicate (D.scope.names.length - vs.length) none) σ (execs D.body (envOfC D.qual D.scope L' f D.cdv)) (fun _ σ'=>Q .none σ') Q x):
  ∀K J m own s cvs (R:Result→Shared→Prop),Sit G C lv K J m→Inv K J own C.L m s.heap→Owns G.w.params K σ own→VRels G.w.params K vs cvs→
  (∀cv s',Post G C.L m K J s Q cv s'→R (.ok (.ret cv)) s')→(∀ev s',x∧Flown C s ev s'→R (.error ev) s')→codeAny (model G.prog G.w) C.A (.call (.ref f) ⟨cvs,[]⟩) R s:=
 CodeP.introD ok hn hrk (fun cvs A s Q E X hl q=>by rw [hb cvs hl];exact wpAny_pure q) h
theorem CallP.intro {f:Addr}{D:DefAt G f}{ps:List Str}(ok:D.Ok ps){vs:List AVal}(hn:vs.length=ps.length)(hrk:1≤C.rk)
  (hb: ∀cvs:List Value,cvs.length=vs.length→bindArgs D.fn ⟨cvs,[]⟩=pure (ps.zip cvs))
  (h: ∀g L',Ex G (D.cx C g L') (vs.map some++List.replicate (D.scope.names.length - vs.length) none) σ (execs D.body (envOfC D.qual D.scope L' f D.cdv)) (fun _ σ'=>Q .none σ') Q x):
  CallP G C lv σ (.ref f) vs Q x:=fun K J m own s cvs S I O r=>
 wpAny_call (CodeP.intro ok hn hrk hb h K J m own s cvs _ S I O r (fun _ _ p=>p) fun _ _ f=>f)
end
noncomputable def dOf (st:Option Stmt):Arguments×List Stmt×Scope:=match st with
 |some (.FunctionDef _ a b _ _ _ sc _ _ _)=>(a,b,sc)
 |_=>(⟨[],[],none,[],[],none,[]⟩,[],default)
noncomputable def cOf (st:Option Stmt):List Stmt:=match st with
 |some (.ClassDef _ _ _ b _ _ _ _ _ _ _)=>b
 |_=> []
noncomputable def dF (i:Nat):Arguments×List Stmt×Scope:=dOf (PySem.Challenge.pw_nu0227_01.main.body[i]?)
noncomputable def dM (i j:Nat):Arguments×List Stmt×Scope:=dOf ((cOf (PySem.Challenge.pw_nu0227_01.main.body[i]?))[j]?)
noncomputable def e (P:Params)(k:Str)(t:Tok)(v:Value):DictEntry:=⟨PyData.keyHash P k,.str k t,v⟩
noncomputable def defChk (sc:Scope)(ps:List Str):Bool:=!sc.isCoroutine&&!sc.isGenerator&&decide (sc.kind= .function)&&decide ((sc.names.take ps.length).map (·.1)=ps)&&decide ((sc.names.map (·.1)).Nodup)&&
 ps.all (fun y=>decide (sc.names.lookup y=some .local)||decide (sc.names.lookup y=some .cell))&&(sc.names.map (·.1)).all fun y=>!(y==("__debug__":Str))
theorem cellsFrom_fst : ∀(names:List (Str×NameKind)) (n:Nat) (acc:List (Str×Addr)),(cellsFrom n names acc).map (·.1)=(((names.filter fun y=>y.2== .cell).map (·.1)).reverse++acc.map (·.1))
 | [],_,_=>rfl
 |(y,k)::r,n,acc=>by
  unfold cellsFrom
  by_cases h:(k== .cell)=true
  ·rw [if_pos h,cellsFrom_fst r]
   simp [List.filter_cons,h]
  ·rw [if_neg h,cellsFrom_fst r]
   simp [List.filter_cons,h]
theorem DefAt.Ok.of {G:Gl}{f:Addr}{D:DefAt G f}{ps:List Str}(at_:G.frag.lookup f=some ⟨D.oc,D.od,.func D.fn,D.osl⟩)(code:codeIn G.frag D.cdv D.qual=true)(hc:defChk D.scope ps=true):D.Ok ps:=by
 unfold defChk at hc
 simp only [Bool.and_eq_true,Bool.not_eq_true',decide_eq_true_eq,List.all_eq_true,Bool.or_eq_true] at hc
 obtain ⟨⟨⟨⟨⟨⟨h1,h2⟩,h3⟩,h4⟩,h5⟩,h6⟩,h7⟩:=hc
 refine ⟨at_,code,h1,h2,h3,h4,h5,h6,fun L=>?_,h7,fun y L q=>cellsFrom_some _ _ _ (.inl q)⟩
 rw [cellsFrom_fst]
 simp only [List.map_nil,List.append_nil]
 rw [List.Nodup,List.pairwise_reverse]
 exact (h5.sublist (List.filter_sublist.map _)).imp fun a b=>a b.symm
noncomputable abbrev tp (l:List Value):Obj:=⟨.type "tuple",none,.seq l.toArray 0,[].toArray⟩
noncomputable abbrev fd (c:String)(l:List Value):Obj:=⟨.type c,none,.fields l.toArray,[].toArray⟩
noncomputable abbrev fo (f:FuncData):Obj:=⟨.type "function",none,.func f,[].toArray⟩
noncomputable def KF (P:Params):Frag:= [
 (2,⟨.none,none,(.dict [e P "type.__subclasses__.Exception.0" 234 (.int 48 0),e P "type.__subclasses__.Exception.n" 235 (.int 1 0)].toArray 2),[].toArray⟩),
 (3,⟨(.type "dict"),none,(.dict [e P "__name__" 165 (.str "law_nu0227_01" 725),e P "__doc__" 166 .none,e P "__package__" 167 .none,e P "__loader__" 168 (.builtin "__main__.__loader__#opaque"),e P "__spec__" 169 .none,e P "__annotations__" 170 (.ref 6),e P "__builtins__" 171 (.ref 4),e P "__file__" 173 (.str "/claim/cut.py" 172),e P "__cached__" 174 .none,e P "_wall" 193 (.ref 21),e P "ShapeError" 237 (.ref 48),e P "TableFault" 253 (.ref 61),e P "FontFault" 269 (.ref 73),e P "check_room" 280 (.ref 82),e P "number_at" 291 (.ref 89),e P "u32_at" 299 (.ref 96),e P "OctetsIn" 403 (.ref 180),e P "number_octets" 409 (.ref 189),e P "OctetsOut" 511 (.ref 272),e P "checksum" 521 (.ref 283),e P "PLAIN" 525 (.int 65536 524),e P "OTTO" 527 (.int 1330926671 526),e P "APPLE" 529 (.int 1953658213 528),e P "VERSIONS" 530 (.ref 284),e P "COLLECTION" 532 (.int 1953784678 531),e P "HEADER_SIZE" 534 (.int 12 533),e P "RECORD_SIZE" 536 (.int 16 535),e P "ADJUSTMENT" 538 (.int 8 537),e P "MOST_FONTS" 540 (.int 64 539),e P "MOST_TABLES" 542 (.int 4095 541),e P "Record" 586 (.ref 308),e P "directory_size" 593 (.ref 319),e P "read_record" 605 (.ref 326),e P "need_in_order" 615 (.ref 333),e P "need_apart" 621 (.ref 338),e P "read_records" 627 (.ref 343),e P "tables_of" 633 (.ref 348),e P "is_collection" 640 (.ref 355),e P "read_collection" 653 (.ref 362),e P "has_adjustment" 661 (.ref 369),e P "unadjusted" 669 (.ref 376),e P "table_sum" 677 (.ref 383),e P "search_numbers" 686 (.ref 390),e P "to_fours" 693 (.ref 397),e P "need_tables" 702 (.ref 404),e P "directory_octets" 712 (.ref 411),e P "shared_spots" 718 (.ref 416),e P "write_collection" 724 (.ref 421),e P "_law_tags" 730 (.ref 422),e P "_law_versions" 734 (.ref 423),e P "_law_pen" 743 (.ref 430),e P "_law_draw" 752 (.ref 437),e P "_law_fonts" 758 (.ref 442),e P "_law_octets" 764 (.ref 447),e P "_law_sum" 770 (.ref 452),e P "_law_whole" 776 (.ref 457),e P "_law_is_refused" 784 (.ref 464),e P "_law_lone" 793 (.ref 471),e P "_law_many_right" 801 (.ref 478),e P "law" 807 (.ref 483)].toArray 60),[].toArray⟩),
 (15,tp []),
 (17,tp [.str "k" 190]),
 (18,tp []),
 (20,fd "code" [.str "_wall" 187,.str "_wall" 188,.str "/claim/cut.py" 189,.int 1 0,.int 1 0,.int 0 0,.int 0 0,.int 3 0,.ref 15,.bool true,.int 181 0,.ref 16,.none,.ref 17,.ref 18,.ref 19,.int 191 0,.int 1 0,.str "/claim/cut.py" 192]),
 (21,fo (fnOf "_wall" "_wall" (dF 0).1 (dF 0).2.1 (dF 0).2.2 .none .none .none (.str "__main__" 164) none (.ref 20) .none)),
 (22,tp [.type "Exception"]),
 (25,⟨(.type "cell"),none,(.cell (some (.ref 48))),[].toArray⟩),
 (30,tp [.int (-1) 209]),
 (31,tp [.ref 25]),
 (32,tp [.str "__class__" 213]),
 (34,tp [.str "self" 214,.str "what" 215,.str "at" 216]),
 (35,tp []),
 (37,fd "code" [.str "__init__" 210,.str "ShapeError.__init__" 211,.str "/claim/cut.py" 212,.int 7 0,.int 3 0,.int 0 0,.int 0 0,.int 3 0,.ref 32,.bool true,.int 181 0,.ref 33,.none,.ref 34,.ref 35,.ref 36,.int 217 0,.int 7 0,.str "/claim/cut.py" 218]),
 (38,fo {(fnOf "__init__" "ShapeError.__init__" (dM 2 0).1 (dM 2 0).2.1 (dM 2 0).2.2 (.ref 30) .none .none (.str "joinedhand.errors" 194) none (.ref 37) (.ref 31)) with closure:= [("__class__",25)]}),
 (39,tp []),
 (41,tp [.str "self" 223]),
 (42,tp []),
 (44,fd "code" [.str "told" 220,.str "ShapeError.told" 221,.str "/claim/cut.py" 222,.int 12 0,.int 1 0,.int 0 0,.int 0 0,.int 3 0,.ref 39,.bool true,.int 181 0,.ref 40,.none,.ref 41,.ref 42,.ref 43,.int 224 0,.int 12 0,.str "/claim/cut.py" 225]),
 (45,fo (fnOf "told" "ShapeError.told" (dM 2 1).1 (dM 2 1).2.1 (dM 2 1).2.2 .none .none .none (.str "joinedhand.errors" 194) none (.ref 44) .none)),
 (46,tp [.str "at" 227,.str "what" 228]),
 (47,⟨(.type "dict"),none,(.dict [e P "__module__" 203 (.str "joinedhand.errors" 194),e P "__firstlineno__" 207 (.int 5 206),e P "__init__" 219 (.ref 38),e P "told" 226 (.ref 45),e P "__static_attributes__" 229 (.ref 46),e P "__weakref__" 232 (.ref 49),e P "__doc__" 233 .none].toArray 4),[].toArray⟩),
 (48,⟨(.type "type"),none,(.cls {name:= "ShapeError",bases:= [.type "Exception"],mro:= [.ref 48,.type "Exception",.type "BaseException",.type "object"],ns:=47,qualname:= "ShapeError",hasDict:=true,slotNames:= [],subclasses:= [.ref 61,.ref 73],abstract:=false,collection:=none,hasDel:=false}),[(some (.ref 22)),none,(some (.str "ShapeError" 196)),(some (.str "ShapeError" 204)),(some (.builtin "Exception.__new__")),(some (.bool true))].toArray⟩),
 (49,fd "getset_descriptor" [.str "__weakref__" 231,.ref 48,.builtin "ExceptionGroup.__weakref__",.none]),
 (52,tp [.ref 48]),
 (59,tp []),
 (60,⟨(.type "dict"),none,(.dict [e P "__module__" 245 (.str "joinedhand.errors" 194),e P "__firstlineno__" 249 (.int 14 248),e P "__static_attributes__" 250 (.ref 59),e P "__doc__" 251 .none].toArray 2),[].toArray⟩),
 (61,⟨(.type "type"),none,(.cls {name:= "TableFault",bases:= [.ref 48],mro:= [.ref 61,.ref 48,.type "Exception",.type "BaseException",.type "object"],ns:=60,qualname:= "TableFault",hasDict:=true,slotNames:= [],subclasses:= [],abstract:=false,collection:=none,hasDel:=false}),[(some (.ref 52)),none,(some (.str "TableFault" 238)),(some (.str "TableFault" 246)),(some (.builtin "Exception.__new__")),(some (.bool true))].toArray⟩),
 (64,tp [.ref 48]),
 (71,tp []),
 (72,⟨(.type "dict"),none,(.dict [e P "__module__" 261 (.str "joinedhand.errors" 194),e P "__firstlineno__" 265 (.int 16 264),e P "__static_attributes__" 266 (.ref 71),e P "__doc__" 267 .none].toArray 2),[].toArray⟩),
 (73,⟨(.type "type"),none,(.cls {name:= "FontFault",bases:= [.ref 48],mro:= [.ref 73,.ref 48,.type "Exception",.type "BaseException",.type "object"],ns:=72,qualname:= "FontFault",hasDict:=true,slotNames:= [],subclasses:= [],abstract:=false,collection:=none,hasDel:=false}),[(some (.ref 64)),none,(some (.str "FontFault" 254)),(some (.str "FontFault" 262)),(some (.builtin "Exception.__new__")),(some (.bool true))].toArray⟩),
 (76,tp []),
 (78,tp [.str "data" 275,.str "at" 276,.str "count" 277]),
 (79,tp []),
 (81,fd "code" [.str "check_room" 272,.str "check_room" 273,.str "/claim/cut.py" 274,.int 19 0,.int 3 0,.int 0 0,.int 0 0,.int 3 0,.ref 76,.bool true,.int 181 0,.ref 77,.none,.ref 78,.ref 79,.ref 80,.int 278 0,.int 19 0,.str "/claim/cut.py" 279]),
 (82,fo (fnOf "check_room" "check_room" (dF 6).1 (dF 6).2.1 (dF 6).2.2 .none .none .none (.str "joinedhand.octets" 270) none (.ref 81) .none)),
 (83,tp []),
 (85,tp [.str "data" 284,.str "at" 285,.str "count" 286,.str "total" 287,.str "code" 288]),
 (86,tp []),
 (88,fd "code" [.str "number_at" 281,.str "number_at" 282,.str "/claim/cut.py" 283,.int 22 0,.int 3 0,.int 0 0,.int 0 0,.int 3 0,.ref 83,.bool true,.int 181 0,.ref 84,.none,.ref 85,.ref 86,.ref 87,.int 289 0,.int 22 0,.str "/claim/cut.py" 290]),
 (89,fo (fnOf "number_at" "number_at" (dF 7).1 (dF 7).2.1 (dF 7).2.2 .none .none .none (.str "joinedhand.octets" 270) none (.ref 88) .none)),
 (90,tp []),
 (92,tp [.str "data" 295,.str "at" 296]),
 (93,tp []),
 (95,fd "code" [.str "u32_at" 292,.str "u32_at" 293,.str "/claim/cut.py" 294,.int 28 0,.int 2 0,.int 0 0,.int 0 0,.int 3 0,.ref 90,.bool true,.int 181 0,.ref 91,.none,.ref 92,.ref 93,.ref 94,.int 297 0,.int 28 0,.str "/claim/cut.py" 298]),
 (96,fo (fnOf "u32_at" "u32_at" (dF 8).1 (dF 8).2.1 (dF 8).2.2 .none .none .none (.str "joinedhand.octets" 270) none (.ref 95) .none)),
 (104,tp [.int 0 312]),
 (105,tp []),
 (107,tp [.str "self" 316,.str "data" 317,.str "at" 318]),
 (108,tp []),
 (110,fd "code" [.str "__init__" 313,.str "OctetsIn.__init__" 314,.str "/claim/cut.py" 315,.int 32 0,.int 3 0,.int 0 0,.int 0 0,.int 3 0,.ref 105,.bool true,.int 181 0,.ref 106,.none,.ref 107,.ref 108,.ref 109,.int 319 0,.int 32 0,.str "/claim/cut.py" 320]),
 (111,fo (fnOf "__init__" "OctetsIn.__init__" (dM 9 0).1 (dM 9 0).2.1 (dM 9 0).2.2 (.ref 104) .none .none (.str "joinedhand.octets" 270) none (.ref 110) .none)),
 (112,tp []),
 (114,tp [.str "self" 325,.str "count" 326]),
 (115,tp []),
 (117,fd "code" [.str "need" 322,.str "OctetsIn.need" 323,.str "/claim/cut.py" 324,.int 36 0,.int 2 0,.int 0 0,.int 0 0,.int 3 0,.ref 112,.bool true,.int 181 0,.ref 113,.none,.ref 114,.ref 115,.ref 116,.int 327 0,.int 36 0,.str "/claim/cut.py" 328]),
 (118,fo (fnOf "need" "OctetsIn.need" (dM 9 1).1 (dM 9 1).2.1 (dM 9 1).2.2 .none .none .none (.str "joinedhand.octets" 270) none (.ref 117) .none)),
 (119,tp []),
 (121,tp [.str "self" 333,.str "count" 334,.str "found" 335]),
 (122,tp []),
 (124,fd "code" [.str "number" 330,.str "OctetsIn.number" 331,.str "/claim/cut.py" 332,.int 39 0,.int 2 0,.int 0 0,.int 0 0,.int 3 0,.ref 119,.bool true,.int 181 0,.ref 120,.none,.ref 121,.ref 122,.ref 123,.int 336 0,.int 39 0,.str "/claim/cut.py" 337]),
 (125,fo (fnOf "number" "OctetsIn.number" (dM 9 2).1 (dM 9 2).2.1 (dM 9 2).2.2 .none .none .none (.str "joinedhand.octets" 270) none (.ref 124) .none)),
 (126,tp []),
 (128,tp [.str "self" 342]),
 (129,tp []),
 (131,fd "code" [.str "u8" 339,.str "OctetsIn.u8" 340,.str "/claim/cut.py" 341,.int 44 0,.int 1 0,.int 0 0,.int 0 0,.int 3 0,.ref 126,.bool true,.int 181 0,.ref 127,.none,.ref 128,.ref 129,.ref 130,.int 343 0,.int 44 0,.str "/claim/cut.py" 344]),
 (132,fo (fnOf "u8" "OctetsIn.u8" (dM 9 3).1 (dM 9 3).2.1 (dM 9 3).2.2 .none .none .none (.str "joinedhand.octets" 270) none (.ref 131) .none)),
 (133,tp []),
 (135,tp [.str "self" 349]),
 (136,tp []),
 (138,fd "code" [.str "u16" 346,.str "OctetsIn.u16" 347,.str "/claim/cut.py" 348,.int 47 0,.int 1 0,.int 0 0,.int 0 0,.int 3 0,.ref 133,.bool true,.int 181 0,.ref 134,.none,.ref 135,.ref 136,.ref 137,.int 350 0,.int 47 0,.str "/claim/cut.py" 351]),
 (139,fo (fnOf "u16" "OctetsIn.u16" (dM 9 4).1 (dM 9 4).2.1 (dM 9 4).2.2 .none .none .none (.str "joinedhand.octets" 270) none (.ref 138) .none)),
 (140,tp []),
 (142,tp [.str "self" 356]),
 (143,tp []),
 (145,fd "code" [.str "i16" 353,.str "OctetsIn.i16" 354,.str "/claim/cut.py" 355,.int 50 0,.int 1 0,.int 0 0,.int 0 0,.int 3 0,.ref 140,.bool true,.int 181 0,.ref 141,.none,.ref 142,.ref 143,.ref 144,.int 357 0,.int 50 0,.str "/claim/cut.py" 358]),
 (146,fo (fnOf "i16" "OctetsIn.i16" (dM 9 5).1 (dM 9 5).2.1 (dM 9 5).2.2 .none .none .none (.str "joinedhand.octets" 270) none (.ref 145) .none)),
 (147,tp []),
 (149,tp [.str "self" 363]),
 (150,tp []),
 (152,fd "code" [.str "u24" 360,.str "OctetsIn.u24" 361,.str "/claim/cut.py" 362,.int 53 0,.int 1 0,.int 0 0,.int 0 0,.int 3 0,.ref 147,.bool true,.int 181 0,.ref 148,.none,.ref 149,.ref 150,.ref 151,.int 364 0,.int 53 0,.str "/claim/cut.py" 365]),
 (153,fo (fnOf "u24" "OctetsIn.u24" (dM 9 6).1 (dM 9 6).2.1 (dM 9 6).2.2 .none .none .none (.str "joinedhand.octets" 270) none (.ref 152) .none)),
 (154,tp []),
 (156,tp [.str "self" 370]),
 (157,tp []),
 (159,fd "code" [.str "u32" 367,.str "OctetsIn.u32" 368,.str "/claim/cut.py" 369,.int 56 0,.int 1 0,.int 0 0,.int 0 0,.int 3 0,.ref 154,.bool true,.int 181 0,.ref 155,.none,.ref 156,.ref 157,.ref 158,.int 371 0,.int 56 0,.str "/claim/cut.py" 372]),
 (160,fo (fnOf "u32" "OctetsIn.u32" (dM 9 7).1 (dM 9 7).2.1 (dM 9 7).2.2 .none .none .none (.str "joinedhand.octets" 270) none (.ref 159) .none)),
 (161,tp []),
 (164,fd "code" [.str "tag" 374,.str "OctetsIn.tag" 375,.str "/claim/cut.py" 376,.int 59 0,.int 1 0,.int 0 0,.int 0 0,.int 3 0,.ref 161,.bool true,.int 181 0,.ref 162,.none,.none,.none,.ref 163,.int 377 0,.int 59 0,.str "/claim/cut.py" 378]),
 (165,fo (fnOf "tag" "OctetsIn.tag" (dM 9 8).1 (dM 9 8).2.1 (dM 9 8).2.2 .none .none .none (.str "joinedhand.octets" 270) none (.ref 164) .none)),
 (166,tp []),
 (169,fd "code" [.str "rows" 380,.str "OctetsIn.rows" 381,.str "/claim/cut.py" 382,.int 65 0,.int 2 0,.int 0 0,.int 0 0,.int 3 0,.ref 166,.bool true,.int 181 0,.ref 167,.none,.none,.none,.ref 168,.int 383 0,.int 65 0,.str "/claim/cut.py" 384]),
 (170,fo (fnOf "rows" "OctetsIn.rows" (dM 9 9).1 (dM 9 9).2.1 (dM 9 9).2.2 .none .none .none (.str "joinedhand.octets" 270) none (.ref 169) .none)),
 (171,tp []),
 (173,tp [.str "self" 389,.str "offset" 390]),
 (174,tp []),
 (176,fd "code" [.str "here" 386,.str "OctetsIn.here" 387,.str "/claim/cut.py" 388,.int 69 0,.int 2 0,.int 0 0,.int 0 0,.int 3 0,.ref 171,.bool true,.int 181 0,.ref 172,.none,.ref 173,.ref 174,.ref 175,.int 391 0,.int 69 0,.str "/claim/cut.py" 392]),
 (177,fo (fnOf "here" "OctetsIn.here" (dM 9 10).1 (dM 9 10).2.1 (dM 9 10).2.2 .none .none .none (.str "joinedhand.octets" 270) none (.ref 176) .none)),
 (178,tp [.str "at" 394,.str "data" 395]),
 (179,⟨(.type "dict"),none,(.dict [e P "__module__" 307 (.str "joinedhand.octets" 270),e P "__firstlineno__" 311 (.int 30 310),e P "__init__" 321 (.ref 111),e P "need" 329 (.ref 118),e P "number" 338 (.ref 125),e P "u8" 345 (.ref 132),e P "u16" 352 (.ref 139),e P "i16" 359 (.ref 146),e P "u24" 366 (.ref 153),e P "u32" 373 (.ref 160),e P "tag" 379 (.ref 165),e P "rows" 385 (.ref 170),e P "here" 393 (.ref 177),e P "__static_attributes__" 396 (.ref 178),e P "__dict__" 398 (.ref 181),e P "__weakref__" 400 (.ref 182),e P "__doc__" 401 .none].toArray 4),[].toArray⟩),
 (180,⟨(.type "type"),none,(.cls {name:= "OctetsIn",bases:= [.type "object"],mro:= [.ref 180,.type "object"],ns:=179,qualname:= "OctetsIn",hasDict:=true,slotNames:= [],subclasses:= [],abstract:=false,collection:=none,hasDel:=false}),[none,none,(some (.str "OctetsIn" 300)),(some (.str "OctetsIn" 308)),(some (.builtin "object.__new__")),(some (.bool true))].toArray⟩),
 (181,fd "getset_descriptor" [.str "__dict__" 397,.ref 180,.builtin "function.__dict__",.builtin "function.__dict__#set"]),
 (182,fd "getset_descriptor" [.str "__weakref__" 399,.ref 180,.builtin "ExceptionGroup.__weakref__",.none]),
 (185,tp []),
 (188,fd "code" [.str "number_octets" 404,.str "number_octets" 405,.str "/claim/cut.py" 406,.int 71 0,.int 2 0,.int 0 0,.int 0 0,.int 3 0,.ref 185,.bool true,.int 181 0,.ref 186,.none,.none,.none,.ref 187,.int 407 0,.int 71 0,.str "/claim/cut.py" 408]),
 (189,fo (fnOf "number_octets" "number_octets" (dF 10).1 (dF 10).2.1 (dF 10).2.2 .none .none .none (.str "joinedhand.octets" 270) none (.ref 188) .none)),
 (197,tp []),
 (199,tp [.str "self" 425]),
 (200,tp []),
 (202,fd "code" [.str "__init__" 422,.str "OctetsOut.__init__" 423,.str "/claim/cut.py" 424,.int 77 0,.int 1 0,.int 0 0,.int 0 0,.int 3 0,.ref 197,.bool true,.int 181 0,.ref 198,.none,.ref 199,.ref 200,.ref 201,.int 426 0,.int 77 0,.str "/claim/cut.py" 427]),
 (203,fo (fnOf "__init__" "OctetsOut.__init__" (dM 11 0).1 (dM 11 0).2.1 (dM 11 0).2.2 .none .none .none (.str "joinedhand.octets" 270) none (.ref 202) .none)),
 (204,tp []),
 (206,tp [.str "self" 432,.str "number" 433]),
 (207,tp []),
 (209,fd "code" [.str "u8" 429,.str "OctetsOut.u8" 430,.str "/claim/cut.py" 431,.int 80 0,.int 2 0,.int 0 0,.int 0 0,.int 3 0,.ref 204,.bool true,.int 181 0,.ref 205,.none,.ref 206,.ref 207,.ref 208,.int 434 0,.int 80 0,.str "/claim/cut.py" 435]),
 (210,fo (fnOf "u8" "OctetsOut.u8" (dM 11 1).1 (dM 11 1).2.1 (dM 11 1).2.2 .none .none .none (.str "joinedhand.octets" 270) none (.ref 209) .none)),
 (211,tp []),
 (213,tp [.str "self" 440,.str "number" 441]),
 (214,tp []),
 (216,fd "code" [.str "u16" 437,.str "OctetsOut.u16" 438,.str "/claim/cut.py" 439,.int 83 0,.int 2 0,.int 0 0,.int 0 0,.int 3 0,.ref 211,.bool true,.int 181 0,.ref 212,.none,.ref 213,.ref 214,.ref 215,.int 442 0,.int 83 0,.str "/claim/cut.py" 443]),
 (217,fo (fnOf "u16" "OctetsOut.u16" (dM 11 2).1 (dM 11 2).2.1 (dM 11 2).2.2 .none .none .none (.str "joinedhand.octets" 270) none (.ref 216) .none)),
 (218,tp []),
 (220,tp [.str "self" 448,.str "number" 449]),
 (221,tp []),
 (223,fd "code" [.str "i16" 445,.str "OctetsOut.i16" 446,.str "/claim/cut.py" 447,.int 86 0,.int 2 0,.int 0 0,.int 0 0,.int 3 0,.ref 218,.bool true,.int 181 0,.ref 219,.none,.ref 220,.ref 221,.ref 222,.int 450 0,.int 86 0,.str "/claim/cut.py" 451]),
 (224,fo (fnOf "i16" "OctetsOut.i16" (dM 11 3).1 (dM 11 3).2.1 (dM 11 3).2.2 .none .none .none (.str "joinedhand.octets" 270) none (.ref 223) .none)),
 (225,tp []),
 (227,tp [.str "self" 456,.str "number" 457]),
 (228,tp []),
 (230,fd "code" [.str "u24" 453,.str "OctetsOut.u24" 454,.str "/claim/cut.py" 455,.int 89 0,.int 2 0,.int 0 0,.int 0 0,.int 3 0,.ref 225,.bool true,.int 181 0,.ref 226,.none,.ref 227,.ref 228,.ref 229,.int 458 0,.int 89 0,.str "/claim/cut.py" 459]),
 (231,fo (fnOf "u24" "OctetsOut.u24" (dM 11 4).1 (dM 11 4).2.1 (dM 11 4).2.2 .none .none .none (.str "joinedhand.octets" 270) none (.ref 230) .none)),
 (232,tp []),
 (234,tp [.str "self" 464,.str "number" 465]),
 (235,tp []),
 (237,fd "code" [.str "u32" 461,.str "OctetsOut.u32" 462,.str "/claim/cut.py" 463,.int 92 0,.int 2 0,.int 0 0,.int 0 0,.int 3 0,.ref 232,.bool true,.int 181 0,.ref 233,.none,.ref 234,.ref 235,.ref 236,.int 466 0,.int 92 0,.str "/claim/cut.py" 467]),
 (238,fo (fnOf "u32" "OctetsOut.u32" (dM 11 5).1 (dM 11 5).2.1 (dM 11 5).2.2 .none .none .none (.str "joinedhand.octets" 270) none (.ref 237) .none)),
 (239,tp []),
 (242,fd "code" [.str "tag" 469,.str "OctetsOut.tag" 470,.str "/claim/cut.py" 471,.int 95 0,.int 2 0,.int 0 0,.int 0 0,.int 3 0,.ref 239,.bool true,.int 181 0,.ref 240,.none,.none,.none,.ref 241,.int 472 0,.int 95 0,.str "/claim/cut.py" 473]),
 (243,fo (fnOf "tag" "OctetsOut.tag" (dM 11 6).1 (dM 11 6).2.1 (dM 11 6).2.2 .none .none .none (.str "joinedhand.octets" 270) none (.ref 242) .none)),
 (244,tp []),
 (247,fd "code" [.str "rows" 475,.str "OctetsOut.rows" 476,.str "/claim/cut.py" 477,.int 100 0,.int 2 0,.int 0 0,.int 0 0,.int 3 0,.ref 244,.bool true,.int 181 0,.ref 245,.none,.none,.none,.ref 246,.int 478 0,.int 100 0,.str "/claim/cut.py" 479]),
 (248,fo (fnOf "rows" "OctetsOut.rows" (dM 11 7).1 (dM 11 7).2.1 (dM 11 7).2.2 .none .none .none (.str "joinedhand.octets" 270) none (.ref 247) .none)),
 (249,tp []),
 (251,tp [.str "self" 484,.str "octets" 485]),
 (252,tp []),
 (254,fd "code" [.str "add" 481,.str "OctetsOut.add" 482,.str "/claim/cut.py" 483,.int 103 0,.int 2 0,.int 0 0,.int 0 0,.int 3 0,.ref 249,.bool true,.int 181 0,.ref 250,.none,.ref 251,.ref 252,.ref 253,.int 486 0,.int 103 0,.str "/claim/cut.py" 487]),
 (255,fo (fnOf "add" "OctetsOut.add" (dM 11 8).1 (dM 11 8).2.1 (dM 11 8).2.2 .none .none .none (.str "joinedhand.octets" 270) none (.ref 254) .none)),
 (256,tp []),
 (258,tp [.str "self" 492]),
 (259,tp []),
 (261,fd "code" [.str "size" 489,.str "OctetsOut.size" 490,.str "/claim/cut.py" 491,.int 106 0,.int 1 0,.int 0 0,.int 0 0,.int 3 0,.ref 256,.bool true,.int 181 0,.ref 257,.none,.ref 258,.ref 259,.ref 260,.int 493 0,.int 106 0,.str "/claim/cut.py" 494]),
 (262,fo (fnOf "size" "OctetsOut.size" (dM 11 9).1 (dM 11 9).2.1 (dM 11 9).2.2 .none .none .none (.str "joinedhand.octets" 270) none (.ref 261) .none)),
 (263,tp []),
 (265,tp [.str "self" 499]),
 (266,tp []),
 (268,fd "code" [.str "octets" 496,.str "OctetsOut.octets" 497,.str "/claim/cut.py" 498,.int 109 0,.int 1 0,.int 0 0,.int 0 0,.int 3 0,.ref 263,.bool true,.int 181 0,.ref 264,.none,.ref 265,.ref 266,.ref 267,.int 500 0,.int 109 0,.str "/claim/cut.py" 501]),
 (269,fo (fnOf "octets" "OctetsOut.octets" (dM 11 10).1 (dM 11 10).2.1 (dM 11 10).2.2 .none .none .none (.str "joinedhand.octets" 270) none (.ref 268) .none)),
 (270,tp [.str "made" 503]),
 (271,⟨(.type "dict"),none,(.dict [e P "__module__" 417 (.str "joinedhand.octets" 270),e P "__firstlineno__" 421 (.int 75 420),e P "__init__" 428 (.ref 203),e P "u8" 436 (.ref 210),e P "u16" 444 (.ref 217),e P "i16" 452 (.ref 224),e P "u24" 460 (.ref 231),e P "u32" 468 (.ref 238),e P "tag" 474 (.ref 243),e P "rows" 480 (.ref 248),e P "add" 488 (.ref 255),e P "size" 495 (.ref 262),e P "octets" 502 (.ref 269),e P "__static_attributes__" 504 (.ref 270),e P "__dict__" 506 (.ref 273),e P "__weakref__" 508 (.ref 274),e P "__doc__" 509 .none].toArray 4),[].toArray⟩),
 (272,⟨(.type "type"),none,(.cls {name:= "OctetsOut",bases:= [.type "object"],mro:= [.ref 272,.type "object"],ns:=271,qualname:= "OctetsOut",hasDict:=true,slotNames:= [],subclasses:= [],abstract:=false,collection:=none,hasDel:=false}),[none,none,(some (.str "OctetsOut" 410)),(some (.str "OctetsOut" 418)),(some (.builtin "object.__new__")),(some (.bool true))].toArray⟩),
 (273,fd "getset_descriptor" [.str "__dict__" 505,.ref 272,.builtin "function.__dict__",.builtin "function.__dict__#set"]),
 (274,fd "getset_descriptor" [.str "__weakref__" 507,.ref 272,.builtin "ExceptionGroup.__weakref__",.none]),
 (277,tp []),
 (279,tp [.str "octets" 515,.str "filled" 516,.str "total" 517,.str "at" 518]),
 (280,tp []),
 (282,fd "code" [.str "checksum" 512,.str "checksum" 513,.str "/claim/cut.py" 514,.int 111 0,.int 1 0,.int 0 0,.int 0 0,.int 3 0,.ref 277,.bool true,.int 181 0,.ref 278,.none,.ref 279,.ref 280,.ref 281,.int 519 0,.int 111 0,.str "/claim/cut.py" 520]),
 (283,fo (fnOf "checksum" "checksum" (dF 12).1 (dF 12).2.1 (dF 12).2.2 .none .none .none (.str "joinedhand.octets" 270) none (.ref 282) .none)),
 (284,tp [.int 65536 524,.int 1330926671 526,.int 1953658213 528]),
 (292,tp []),
 (294,tp [.str "self" 558,.str "tag" 559,.str "total" 560,.str "begin" 561,.str "length" 562,.str "where" 563]),
 (295,tp []),
 (297,fd "code" [.str "__init__" 555,.str "Record.__init__" 556,.str "/claim/cut.py" 557,.int 130 0,.int 6 0,.int 0 0,.int 0 0,.int 3 0,.ref 292,.bool true,.int 181 0,.ref 293,.none,.ref 294,.ref 295,.ref 296,.int 564 0,.int 130 0,.str "/claim/cut.py" 565]),
 (298,fo (fnOf "__init__" "Record.__init__" (dM 24 0).1 (dM 24 0).2.1 (dM 24 0).2.2 .none .none .none (.str "joinedhand.sfnt" 522) none (.ref 297) .none)),
 (299,tp []),
 (301,tp [.str "self" 570]),
 (302,tp []),
 (304,fd "code" [.str "end" 567,.str "Record.end" 568,.str "/claim/cut.py" 569,.int 137 0,.int 1 0,.int 0 0,.int 0 0,.int 3 0,.ref 299,.bool true,.int 181 0,.ref 300,.none,.ref 301,.ref 302,.ref 303,.int 571 0,.int 137 0,.str "/claim/cut.py" 572]),
 (305,fo (fnOf "end" "Record.end" (dM 24 1).1 (dM 24 1).2.1 (dM 24 1).2.2 .none .none .none (.str "joinedhand.sfnt" 522) none (.ref 304) .none)),
 (306,tp [.str "begin" 574,.str "length" 575,.str "tag" 576,.str "total" 577,.str "where" 578]),
 (307,⟨(.type "dict"),none,(.dict [e P "__module__" 550 (.str "joinedhand.sfnt" 522),e P "__firstlineno__" 554 (.int 128 553),e P "__init__" 566 (.ref 298),e P "end" 573 (.ref 305),e P "__static_attributes__" 579 (.ref 306),e P "__dict__" 581 (.ref 309),e P "__weakref__" 583 (.ref 310),e P "__doc__" 584 .none].toArray 4),[].toArray⟩),
 (308,⟨(.type "type"),none,(.cls {name:= "Record",bases:= [.type "object"],mro:= [.ref 308,.type "object"],ns:=307,qualname:= "Record",hasDict:=true,slotNames:= [],subclasses:= [],abstract:=false,collection:=none,hasDel:=false}),[none,none,(some (.str "Record" 543)),(some (.str "Record" 551)),(some (.builtin "object.__new__")),(some (.bool true))].toArray⟩),
 (309,fd "getset_descriptor" [.str "__dict__" 580,.ref 308,.builtin "function.__dict__",.builtin "function.__dict__#set"]),
 (310,fd "getset_descriptor" [.str "__weakref__" 582,.ref 308,.builtin "ExceptionGroup.__weakref__",.none]),
 (313,tp []),
 (315,tp [.str "count" 590]),
 (316,tp []),
 (318,fd "code" [.str "directory_size" 587,.str "directory_size" 588,.str "/claim/cut.py" 589,.int 139 0,.int 1 0,.int 0 0,.int 0 0,.int 3 0,.ref 313,.bool true,.int 181 0,.ref 314,.none,.ref 315,.ref 316,.ref 317,.int 591 0,.int 139 0,.str "/claim/cut.py" 592]),
 (319,fo (fnOf "directory_size" "directory_size" (dF 25).1 (dF 25).2.1 (dF 25).2.2 .none .none .none (.str "joinedhand.sfnt" 522) none (.ref 318) .none)),
 (320,tp []),
 (322,tp [.str "data" 597,.str "where" 598,.str "reader" 599,.str "tag" 600,.str "total" 601,.str "begin" 602]),
 (323,tp []),
 (325,fd "code" [.str "read_record" 594,.str "read_record" 595,.str "/claim/cut.py" 596,.int 141 0,.int 2 0,.int 0 0,.int 0 0,.int 3 0,.ref 320,.bool true,.int 181 0,.ref 321,.none,.ref 322,.ref 323,.ref 324,.int 603 0,.int 141 0,.str "/claim/cut.py" 604]),
 (326,fo (fnOf "read_record" "read_record" (dF 26).1 (dF 26).2.1 (dF 26).2.2 .none .none .none (.str "joinedhand.sfnt" 522) none (.ref 325) .none)),
 (327,tp []),
 (329,tp [.str "records" 609,.str "size" 610,.str "at" 611,.str "one" 612]),
 (330,tp []),
 (332,fd "code" [.str "need_in_order" 606,.str "need_in_order" 607,.str "/claim/cut.py" 608,.int 147 0,.int 2 0,.int 0 0,.int 0 0,.int 3 0,.ref 327,.bool true,.int 181 0,.ref 328,.none,.ref 329,.ref 330,.ref 331,.int 613 0,.int 147 0,.str "/claim/cut.py" 614]),
 (333,fo (fnOf "need_in_order" "need_in_order" (dF 27).1 (dF 27).2.1 (dF 27).2.2 .none .none .none (.str "joinedhand.sfnt" 522) none (.ref 332) .none)),
 (334,tp []),
 (337,fd "code" [.str "need_apart" 616,.str "need_apart" 617,.str "/claim/cut.py" 618,.int 154 0,.int 3 0,.int 0 0,.int 0 0,.int 3 0,.ref 334,.bool true,.int 181 0,.ref 335,.none,.none,.none,.ref 336,.int 619 0,.int 154 0,.str "/claim/cut.py" 620]),
 (338,fo (fnOf "need_apart" "need_apart" (dF 28).1 (dF 28).2.1 (dF 28).2.2 .none .none .none (.str "joinedhand.sfnt" 522) none (.ref 337) .none)),
 (339,tp []),
 (342,fd "code" [.str "read_records" 622,.str "read_records" 623,.str "/claim/cut.py" 624,.int 161 0,.int 2 0,.int 0 0,.int 0 0,.int 3 0,.ref 339,.bool true,.int 181 0,.ref 340,.none,.none,.none,.ref 341,.int 625 0,.int 161 0,.str "/claim/cut.py" 626]),
 (343,fo (fnOf "read_records" "read_records" (dF 29).1 (dF 29).2.1 (dF 29).2.2 .none .none .none (.str "joinedhand.sfnt" 522) none (.ref 342) .none)),
 (344,tp []),
 (347,fd "code" [.str "tables_of" 628,.str "tables_of" 629,.str "/claim/cut.py" 630,.int 175 0,.int 2 0,.int 0 0,.int 0 0,.int 3 0,.ref 344,.bool true,.int 181 0,.ref 345,.none,.none,.none,.ref 346,.int 631 0,.int 175 0,.str "/claim/cut.py" 632]),
 (348,fo (fnOf "tables_of" "tables_of" (dF 30).1 (dF 30).2.1 (dF 30).2.2 .none .none .none (.str "joinedhand.sfnt" 522) none (.ref 347) .none)),
 (349,tp []),
 (351,tp [.str "data" 637]),
 (352,tp []),
 (354,fd "code" [.str "is_collection" 634,.str "is_collection" 635,.str "/claim/cut.py" 636,.int 177 0,.int 1 0,.int 0 0,.int 0 0,.int 3 0,.ref 349,.bool true,.int 181 0,.ref 350,.none,.ref 351,.ref 352,.ref 353,.int 638 0,.int 177 0,.str "/claim/cut.py" 639]),
 (355,fo (fnOf "is_collection" "is_collection" (dF 31).1 (dF 31).2.1 (dF 31).2.2 .none .none .none (.str "joinedhand.sfnt" 522) none (.ref 354) .none)),
 (356,tp []),
 (358,tp [.str "data" 644,.str "reader" 645,.str "count" 646,.str "found" 647,.str "spot" 648,.str "version" 649,.str "records" 650]),
 (359,tp []),
 (361,fd "code" [.str "read_collection" 641,.str "read_collection" 642,.str "/claim/cut.py" 643,.int 179 0,.int 1 0,.int 0 0,.int 0 0,.int 3 0,.ref 356,.bool true,.int 181 0,.ref 357,.none,.ref 358,.ref 359,.ref 360,.int 651 0,.int 179 0,.str "/claim/cut.py" 652]),
 (362,fo (fnOf "read_collection" "read_collection" (dF 32).1 (dF 32).2.1 (dF 32).2.2 .none .none .none (.str "joinedhand.sfnt" 522) none (.ref 361) .none)),
 (363,tp []),
 (365,tp [.str "tag" 657,.str "octets" 658]),
 (366,tp []),
 (368,fd "code" [.str "has_adjustment" 654,.str "has_adjustment" 655,.str "/claim/cut.py" 656,.int 193 0,.int 2 0,.int 0 0,.int 0 0,.int 3 0,.ref 363,.bool true,.int 181 0,.ref 364,.none,.ref 365,.ref 366,.ref 367,.int 659 0,.int 193 0,.str "/claim/cut.py" 660]),
 (369,fo (fnOf "has_adjustment" "has_adjustment" (dF 33).1 (dF 33).2.1 (dF 33).2.2 .none .none .none (.str "joinedhand.sfnt" 522) none (.ref 368) .none)),
 (370,tp []),
 (372,tp [.str "tag" 665,.str "octets" 666]),
 (373,tp []),
 (375,fd "code" [.str "unadjusted" 662,.str "unadjusted" 663,.str "/claim/cut.py" 664,.int 195 0,.int 2 0,.int 0 0,.int 0 0,.int 3 0,.ref 370,.bool true,.int 181 0,.ref 371,.none,.ref 372,.ref 373,.ref 374,.int 667 0,.int 195 0,.str "/claim/cut.py" 668]),
 (376,fo (fnOf "unadjusted" "unadjusted" (dF 34).1 (dF 34).2.1 (dF 34).2.2 .none .none .none (.str "joinedhand.sfnt" 522) none (.ref 375) .none)),
 (377,tp []),
 (379,tp [.str "tag" 673,.str "octets" 674]),
 (380,tp []),
 (382,fd "code" [.str "table_sum" 670,.str "table_sum" 671,.str "/claim/cut.py" 672,.int 199 0,.int 2 0,.int 0 0,.int 0 0,.int 3 0,.ref 377,.bool true,.int 181 0,.ref 378,.none,.ref 379,.ref 380,.ref 381,.int 675 0,.int 199 0,.str "/claim/cut.py" 676]),
 (383,fo (fnOf "table_sum" "table_sum" (dF 35).1 (dF 35).2.1 (dF 35).2.2 .none .none .none (.str "joinedhand.sfnt" 522) none (.ref 382) .none)),
 (384,tp []),
 (386,tp [.str "count" 681,.str "power" 682,.str "steps" 683]),
 (387,tp []),
 (389,fd "code" [.str "search_numbers" 678,.str "search_numbers" 679,.str "/claim/cut.py" 680,.int 201 0,.int 1 0,.int 0 0,.int 0 0,.int 3 0,.ref 384,.bool true,.int 181 0,.ref 385,.none,.ref 386,.ref 387,.ref 388,.int 684 0,.int 201 0,.str "/claim/cut.py" 685]),
 (390,fo (fnOf "search_numbers" "search_numbers" (dF 36).1 (dF 36).2.1 (dF 36).2.2 .none .none .none (.str "joinedhand.sfnt" 522) none (.ref 389) .none)),
 (391,tp []),
 (393,tp [.str "octets" 690]),
 (394,tp []),
 (396,fd "code" [.str "to_fours" 687,.str "to_fours" 688,.str "/claim/cut.py" 689,.int 207 0,.int 1 0,.int 0 0,.int 0 0,.int 3 0,.ref 391,.bool true,.int 181 0,.ref 392,.none,.ref 393,.ref 394,.ref 395,.int 691 0,.int 207 0,.str "/claim/cut.py" 692]),
 (397,fo (fnOf "to_fours" "to_fours" (dF 37).1 (dF 37).2.1 (dF 37).2.2 .none .none .none (.str "joinedhand.sfnt" 522) none (.ref 396) .none)),
 (398,tp []),
 (400,tp [.str "version" 697,.str "tables" 698,.str "tag" 699]),
 (401,tp []),
 (403,fd "code" [.str "need_tables" 694,.str "need_tables" 695,.str "/claim/cut.py" 696,.int 209 0,.int 2 0,.int 0 0,.int 0 0,.int 3 0,.ref 398,.bool true,.int 181 0,.ref 399,.none,.ref 400,.ref 401,.ref 402,.int 700 0,.int 209 0,.str "/claim/cut.py" 701]),
 (404,fo (fnOf "need_tables" "need_tables" (dF 38).1 (dF 38).2.1 (dF 38).2.2 .none .none .none (.str "joinedhand.sfnt" 522) none (.ref 403) .none)),
 (405,tp []),
 (407,tp [.str "version" 706,.str "records" 707,.str "out" 708,.str "one" 709]),
 (408,tp []),
 (410,fd "code" [.str "directory_octets" 703,.str "directory_octets" 704,.str "/claim/cut.py" 705,.int 217 0,.int 2 0,.int 0 0,.int 0 0,.int 3 0,.ref 405,.bool true,.int 181 0,.ref 406,.none,.ref 407,.ref 408,.ref 409,.int 710 0,.int 217 0,.str "/claim/cut.py" 711]),
 (411,fo (fnOf "directory_octets" "directory_octets" (dF 39).1 (dF 39).2.1 (dF 39).2.2 .none .none .none (.str "joinedhand.sfnt" 522) none (.ref 410) .none)),
 (412,tp []),
 (415,fd "code" [.str "shared_spots" 713,.str "shared_spots" 714,.str "/claim/cut.py" 715,.int 228 0,.int 2 0,.int 0 0,.int 0 0,.int 3 0,.ref 412,.bool true,.int 181 0,.ref 413,.none,.none,.none,.ref 414,.int 716 0,.int 228 0,.str "/claim/cut.py" 717]),
 (416,fo (fnOf "shared_spots" "shared_spots" (dF 40).1 (dF 40).2.1 (dF 40).2.2 .none .none .none (.str "joinedhand.sfnt" 522) none (.ref 415) .none)),
 (417,tp []),
 (420,fd "code" [.str "write_collection" 719,.str "write_collection" 720,.str "/claim/cut.py" 721,.int 243 0,.int 1 0,.int 0 0,.int 0 0,.int 3 0,.ref 417,.bool true,.int 181 0,.ref 418,.none,.none,.none,.ref 419,.int 722 0,.int 243 0,.str "/claim/cut.py" 723]),
 (421,fo (fnOf "write_collection" "write_collection" (dF 41).1 (dF 41).2.1 (dF 41).2.2 .none .none .none (.str "joinedhand.sfnt" 522) none (.ref 420) .none)),
 (422,tp [.str "cmap" 727,.str "head" 728,.str "maxp" 729]),
 (423,tp [.int 65536 731,.int 1330926671 732,.int 1953658213 733]),
 (424,tp []),
 (426,tp [.str "script" 738,.str "number" 739,.str "cell" 740]),
 (427,tp []),
 (429,fd "code" [.str "_law_pen" 735,.str "_law_pen" 736,.str "/claim/cut.py" 737,.int 265 0,.int 1 0,.int 0 0,.int 0 0,.int 3 0,.ref 424,.bool true,.int 181 0,.ref 425,.none,.ref 426,.ref 427,.ref 428,.int 741 0,.int 265 0,.str "/claim/cut.py" 742]),
 (430,fo (fnOf "_law_pen" "_law_pen" (dF 45).1 (dF 45).2.1 (dF 45).2.2 .none .none .none (.str "law_nu0227_01" 725) none (.ref 429) .none)),
 (431,tp []),
 (433,tp [.str "pen" 747,.str "many" 748,.str "digit" 749]),
 (434,tp []),
 (436,fd "code" [.str "_law_draw" 744,.str "_law_draw" 745,.str "/claim/cut.py" 746,.int 270 0,.int 2 0,.int 0 0,.int 0 0,.int 3 0,.ref 431,.bool true,.int 181 0,.ref 432,.none,.ref 433,.ref 434,.ref 435,.int 750 0,.int 270 0,.str "/claim/cut.py" 751]),
 (437,fo (fnOf "_law_draw" "_law_draw" (dF 46).1 (dF 46).2.1 (dF 46).2.2 .none .none .none (.str "law_nu0227_01" 725) none (.ref 436) .none)),
 (438,tp []),
 (441,fd "code" [.str "_law_fonts" 753,.str "_law_fonts" 754,.str "/claim/cut.py" 755,.int 277 0,.int 1 0,.int 0 0,.int 0 0,.int 3 0,.ref 438,.bool true,.int 181 0,.ref 439,.none,.none,.none,.ref 440,.int 756 0,.int 277 0,.str "/claim/cut.py" 757]),
 (442,fo (fnOf "_law_fonts" "_law_fonts" (dF 47).1 (dF 47).2.1 (dF 47).2.2 .none .none .none (.str "law_nu0227_01" 725) none (.ref 441) .none)),
 (443,tp []),
 (446,fd "code" [.str "_law_octets" 759,.str "_law_octets" 760,.str "/claim/cut.py" 761,.int 287 0,.int 2 0,.int 0 0,.int 0 0,.int 3 0,.ref 443,.bool true,.int 181 0,.ref 444,.none,.none,.none,.ref 445,.int 762 0,.int 287 0,.str "/claim/cut.py" 763]),
 (447,fo (fnOf "_law_octets" "_law_octets" (dF 48).1 (dF 48).2.1 (dF 48).2.2 .none .none .none (.str "law_nu0227_01" 725) none (.ref 446) .none)),
 (448,tp []),
 (451,fd "code" [.str "_law_sum" 765,.str "_law_sum" 766,.str "/claim/cut.py" 767,.int 289 0,.int 2 0,.int 0 0,.int 0 0,.int 3 0,.ref 448,.bool true,.int 181 0,.ref 449,.none,.none,.none,.ref 450,.int 768 0,.int 289 0,.str "/claim/cut.py" 769]),
 (452,fo (fnOf "_law_sum" "_law_sum" (dF 49).1 (dF 49).2.1 (dF 49).2.2 .none .none .none (.str "law_nu0227_01" 725) none (.ref 451) .none)),
 (453,tp []),
 (456,fd "code" [.str "_law_whole" 771,.str "_law_whole" 772,.str "/claim/cut.py" 773,.int 293 0,.int 1 0,.int 0 0,.int 0 0,.int 3 0,.ref 453,.bool true,.int 181 0,.ref 454,.none,.none,.none,.ref 455,.int 774 0,.int 293 0,.str "/claim/cut.py" 775]),
 (457,fo (fnOf "_law_whole" "_law_whole" (dF 50).1 (dF 50).2.1 (dF 50).2.2 .none .none .none (.str "law_nu0227_01" 725) none (.ref 456) .none)),
 (458,tp []),
 (460,tp [.str "deed" 780,.str "worth" 781]),
 (461,tp []),
 (463,fd "code" [.str "_law_is_refused" 777,.str "_law_is_refused" 778,.str "/claim/cut.py" 779,.int 312 0,.int 2 0,.int 0 0,.int 0 0,.int 3 0,.ref 458,.bool true,.int 181 0,.ref 459,.none,.ref 460,.ref 461,.ref 462,.int 782 0,.int 312 0,.str "/claim/cut.py" 783]),
 (464,fo (fnOf "_law_is_refused" "_law_is_refused" (dF 51).1 (dF 51).2.1 (dF 51).2.2 .none .none .none (.str "law_nu0227_01" 725) none (.ref 463) .none)),
 (465,tp []),
 (467,tp [.str "many" 788,.str "first" 789,.str "lone" 790]),
 (468,tp []),
 (470,fd "code" [.str "_law_lone" 785,.str "_law_lone" 786,.str "/claim/cut.py" 787,.int 318 0,.int 1 0,.int 0 0,.int 0 0,.int 3 0,.ref 465,.bool true,.int 181 0,.ref 466,.none,.ref 467,.ref 468,.ref 469,.int 791 0,.int 318 0,.str "/claim/cut.py" 792]),
 (471,fo (fnOf "_law_lone" "_law_lone" (dF 52).1 (dF 52).2.1 (dF 52).2.2 .none .none .none (.str "law_nu0227_01" 725) none (.ref 470) .none)),
 (472,tp []),
 (474,tp [.str "way" 797,.str "font" 798]),
 (475,tp []),
 (477,fd "code" [.str "_law_many_right" 794,.str "_law_many_right" 795,.str "/claim/cut.py" 796,.int 322 0,.int 1 0,.int 0 0,.int 0 0,.int 3 0,.ref 472,.bool true,.int 181 0,.ref 473,.none,.ref 474,.ref 475,.ref 476,.int 799 0,.int 322 0,.str "/claim/cut.py" 800]),
 (478,fo (fnOf "_law_many_right" "_law_many_right" (dF 53).1 (dF 53).2.1 (dF 53).2.2 .none .none .none (.str "law_nu0227_01" 725) none (.ref 477) .none)),
 (479,tp []),
 (482,fd "code" [.str "law" 802,.str "law" 803,.str "/claim/cut.py" 804,.int 327 0,.int 1 0,.int 0 0,.int 0 0,.int 3 0,.ref 479,.bool true,.int 181 0,.ref 480,.none,.none,.none,.ref 481,.int 805 0,.int 327 0,.str "/claim/cut.py" 806]),
 (483,fo (fnOf "law" "law" (dF 54).1 (dF 54).2.1 (dF 54).2.2 .none .none .none (.str "law_nu0227_01" 725) none (.ref 482) .none))]
noncomputable abbrev gI :NameKind:= .globalImplicit
noncomputable abbrev lo :NameKind:= .local
noncomputable abbrev mkS (ns:List (Str×NameKind)):Scope:={kind:= .function,names:=ns,isGenerator:=false,isCoroutine:=false,more:= []}
noncomputable abbrev mkD {G:Gl}{f:Addr}(n q:Str)(t:Arguments×List Stmt×Scope)(sc:Scope)(dV pm cdv ct:Value):DefAt G f:={name:=n,qual:=q,params:=t.1,body:=t.2.1,scope:=sc,dV:=dV,kV:= .none,doc:= .none,pm:=pm,an:=none,cdv:=cdv,ct:=ct,oc:= .type "function",od:=none,osl:= [].toArray}
section
variable {G:Gl}(h:G.frag=KF G.w.params)
include h
theorem nsK {y:Str}{r:Option (Option Value)}(e:nsIn (KF G.w.params) mainGlobals y=r):nsIn G.frag mainGlobals y=r:=h▸e
theorem okK {f:Addr}{D:DefAt G f}{ps:List Str}(e1:(KF G.w.params).lookup f=some ⟨D.oc,D.od,.func D.fn,D.osl⟩)(e2:codeIn (KF G.w.params) D.cdv D.qual=true)(sc:Scope)(e3:defChk sc ps=true)(e4:D.scope=sc):D.Ok ps:= .of (h▸e1) (h▸e2) (e4▸e3)
noncomputable def S_ShapeError__init_ :Scope:=mkS [("self",lo),("what",lo),("at",lo),("__class__",.free),("super",gI)]
noncomputable def D_ShapeError__init_ (G:Gl):DefAt G 38:=mkD "__init__" "ShapeError.__init__" (dM 2 0) S_ShapeError__init_ (.ref 30) (.str "joinedhand.errors" 194) (.ref 37) (.ref 31)
noncomputable def S_check_room :Scope:=mkS [("data",lo),("at",lo),("count",lo),("len",gI),("TableFault",gI)]
noncomputable def D_check_room (G:Gl):DefAt G 82:=mkD "check_room" "check_room" (dF 6) S_check_room .none (.str "joinedhand.octets" 270) (.ref 81) .none
theorem ok_check_room :(D_check_room G).Ok ["data","at","count"]:=okK h rfl rfl S_check_room (by decide+kernel) rfl
noncomputable def S_number_at :Scope:=mkS [("data",lo),("at",lo),("count",lo),("total",lo),("code",lo),("check_room",gI)]
noncomputable def D_number_at (G:Gl):DefAt G 89:=mkD "number_at" "number_at" (dF 7) S_number_at .none (.str "joinedhand.octets" 270) (.ref 88) .none
theorem ok_number_at :(D_number_at G).Ok ["data","at","count"]:=okK h rfl rfl S_number_at (by decide+kernel) rfl
noncomputable def S_u32_at :Scope:=mkS [("data",lo),("at",lo),("number_at",gI)]
noncomputable def D_u32_at (G:Gl):DefAt G 96:=mkD "u32_at" "u32_at" (dF 8) S_u32_at .none (.str "joinedhand.octets" 270) (.ref 95) .none
theorem ok_u32_at :(D_u32_at G).Ok ["data","at"]:=okK h rfl rfl S_u32_at (by decide+kernel) rfl
noncomputable def S_OctetsIn__init_ :Scope:=mkS [("self",lo),("data",lo),("at",lo)]
noncomputable def D_OctetsIn__init_ (G:Gl):DefAt G 111:=mkD "__init__" "OctetsIn.__init__" (dM 9 0) S_OctetsIn__init_ (.ref 104) (.str "joinedhand.octets" 270) (.ref 110) .none
theorem ok_OctetsIn__init_ :(D_OctetsIn__init_ G).Ok ["self","data","at"]:=okK h rfl rfl S_OctetsIn__init_ (by decide+kernel) rfl
noncomputable def S_OctetsIn_need :Scope:=mkS [("self",lo),("count",lo),("check_room",gI)]
noncomputable def D_OctetsIn_need (G:Gl):DefAt G 118:=mkD "need" "OctetsIn.need" (dM 9 1) S_OctetsIn_need .none (.str "joinedhand.octets" 270) (.ref 117) .none
theorem ok_OctetsIn_need :(D_OctetsIn_need G).Ok ["self","count"]:=okK h rfl rfl S_OctetsIn_need (by decide+kernel) rfl
noncomputable def S_OctetsIn_number :Scope:=mkS [("self",lo),("count",lo),("found",lo),("number_at",gI)]
noncomputable def D_OctetsIn_number (G:Gl):DefAt G 125:=mkD "number" "OctetsIn.number" (dM 9 2) S_OctetsIn_number .none (.str "joinedhand.octets" 270) (.ref 124) .none
theorem ok_OctetsIn_number :(D_OctetsIn_number G).Ok ["self","count"]:=okK h rfl rfl S_OctetsIn_number (by decide+kernel) rfl
noncomputable def S_OctetsIn_u16 :Scope:=mkS [("self",lo)]
noncomputable def D_OctetsIn_u16 (G:Gl):DefAt G 139:=mkD "u16" "OctetsIn.u16" (dM 9 4) S_OctetsIn_u16 .none (.str "joinedhand.octets" 270) (.ref 138) .none
theorem ok_OctetsIn_u16 :(D_OctetsIn_u16 G).Ok ["self"]:=okK h rfl rfl S_OctetsIn_u16 (by decide+kernel) rfl
noncomputable def S_OctetsIn_u32 :Scope:=mkS [("self",lo)]
noncomputable def D_OctetsIn_u32 (G:Gl):DefAt G 160:=mkD "u32" "OctetsIn.u32" (dM 9 7) S_OctetsIn_u32 .none (.str "joinedhand.octets" 270) (.ref 159) .none
theorem ok_OctetsIn_u32 :(D_OctetsIn_u32 G).Ok ["self"]:=okK h rfl rfl S_OctetsIn_u32 (by decide+kernel) rfl
noncomputable def S_OctetsIn_tag :Scope:={kind:= .function,names:= [("self",.local),("codes",.local)],isGenerator:=false,isCoroutine:=false,more:= [("fast",(.str "self")),("fast",(.str "codes")),("fast",(.str "code"))]}
noncomputable def D_OctetsIn_tag (G:Gl):DefAt G 165:=mkD "tag" "OctetsIn.tag" (dM 9 8) S_OctetsIn_tag .none (.str "joinedhand.octets" 270) (.ref 164) .none
theorem ok_OctetsIn_tag :(D_OctetsIn_tag G).Ok ["self"]:=okK h rfl rfl S_OctetsIn_tag (by decide+kernel) rfl
noncomputable def S_number_octets :Scope:={kind:= .function,names:= [("number",.cell),("count",.local),("TableFault",.globalImplicit),("str",.globalImplicit),("bytes",.globalImplicit),("range",.globalImplicit)],isGenerator:=false,isCoroutine:=false,more:= [("fast",(.str "number")),("fast",(.str "count")),("fast",(.str "place"))]}
noncomputable def D_number_octets (G:Gl):DefAt G 189:=mkD "number_octets" "number_octets" (dF 10) S_number_octets .none (.str "joinedhand.octets" 270) (.ref 188) .none
theorem ok_number_octets :(D_number_octets G).Ok ["number","count"]:=okK h rfl rfl S_number_octets (by decide+kernel) rfl
noncomputable def S_OctetsOut__init_ :Scope:=mkS [("self",lo),("bytearray",gI)]
noncomputable def D_OctetsOut__init_ (G:Gl):DefAt G 203:=mkD "__init__" "OctetsOut.__init__" (dM 11 0) S_OctetsOut__init_ .none (.str "joinedhand.octets" 270) (.ref 202) .none
theorem ok_OctetsOut__init_ :(D_OctetsOut__init_ G).Ok ["self"]:=okK h rfl rfl S_OctetsOut__init_ (by decide+kernel) rfl
noncomputable def S_OctetsOut_u16 :Scope:=mkS [("self",lo),("number",lo),("number_octets",gI)]
noncomputable def D_OctetsOut_u16 (G:Gl):DefAt G 217:=mkD "u16" "OctetsOut.u16" (dM 11 2) S_OctetsOut_u16 .none (.str "joinedhand.octets" 270) (.ref 216) .none
theorem ok_OctetsOut_u16 :(D_OctetsOut_u16 G).Ok ["self","number"]:=okK h rfl rfl S_OctetsOut_u16 (by decide+kernel) rfl
noncomputable def S_OctetsOut_u32 :Scope:=mkS [("self",lo),("number",lo),("number_octets",gI)]
noncomputable def D_OctetsOut_u32 (G:Gl):DefAt G 238:=mkD "u32" "OctetsOut.u32" (dM 11 5) S_OctetsOut_u32 .none (.str "joinedhand.octets" 270) (.ref 237) .none
theorem ok_OctetsOut_u32 :(D_OctetsOut_u32 G).Ok ["self","number"]:=okK h rfl rfl S_OctetsOut_u32 (by decide+kernel) rfl
noncomputable def S_OctetsOut_tag :Scope:={kind:= .function,names:= [("self",.local),("text",.local),("len",.globalImplicit),("TableFault",.globalImplicit),("bytes",.globalImplicit)],isGenerator:=false,isCoroutine:=false,more:= [("fast",(.str "self")),("fast",(.str "text")),("fast",(.str "sign"))]}
noncomputable def D_OctetsOut_tag (G:Gl):DefAt G 243:=mkD "tag" "OctetsOut.tag" (dM 11 6) S_OctetsOut_tag .none (.str "joinedhand.octets" 270) (.ref 242) .none
theorem ok_OctetsOut_tag :(D_OctetsOut_tag G).Ok ["self","text"]:=okK h rfl rfl S_OctetsOut_tag (by decide+kernel) rfl
noncomputable def S_OctetsOut_rows :Scope:={kind:= .function,names:= [("self",.local),("numbers",.local)],isGenerator:=false,isCoroutine:=false,more:= [("fast",(.str "self")),("fast",(.str "numbers")),("fast",(.str "number"))]}
noncomputable def D_OctetsOut_rows (G:Gl):DefAt G 248:=mkD "rows" "OctetsOut.rows" (dM 11 7) S_OctetsOut_rows .none (.str "joinedhand.octets" 270) (.ref 247) .none
theorem ok_OctetsOut_rows :(D_OctetsOut_rows G).Ok ["self","numbers"]:=okK h rfl rfl S_OctetsOut_rows (by decide+kernel) rfl
noncomputable def S_OctetsOut_add :Scope:=mkS [("self",lo),("octets",lo)]
noncomputable def D_OctetsOut_add (G:Gl):DefAt G 255:=mkD "add" "OctetsOut.add" (dM 11 8) S_OctetsOut_add .none (.str "joinedhand.octets" 270) (.ref 254) .none
theorem ok_OctetsOut_add :(D_OctetsOut_add G).Ok ["self","octets"]:=okK h rfl rfl S_OctetsOut_add (by decide+kernel) rfl
noncomputable def S_OctetsOut_octets :Scope:=mkS [("self",lo),("bytes",gI)]
noncomputable def D_OctetsOut_octets (G:Gl):DefAt G 269:=mkD "octets" "OctetsOut.octets" (dM 11 10) S_OctetsOut_octets .none (.str "joinedhand.octets" 270) (.ref 268) .none
theorem ok_OctetsOut_octets :(D_OctetsOut_octets G).Ok ["self"]:=okK h rfl rfl S_OctetsOut_octets (by decide+kernel) rfl
noncomputable def S_checksum :Scope:=mkS [("octets",lo),("filled",lo),("total",lo),("at",lo),("bytes",gI),("len",gI),("range",gI),("number_at",gI)]
noncomputable def D_checksum (G:Gl):DefAt G 283:=mkD "checksum" "checksum" (dF 12) S_checksum .none (.str "joinedhand.octets" 270) (.ref 282) .none
theorem ok_checksum :(D_checksum G).Ok ["octets"]:=okK h rfl rfl S_checksum (by decide+kernel) rfl
noncomputable def S_Record__init_ :Scope:=mkS [("self",lo),("tag",lo),("total",lo),("begin",lo),("length",lo),("where",lo)]
noncomputable def D_Record__init_ (G:Gl):DefAt G 298:=mkD "__init__" "Record.__init__" (dM 24 0) S_Record__init_ .none (.str "joinedhand.sfnt" 522) (.ref 297) .none
theorem ok_Record__init_ :(D_Record__init_ G).Ok ["self","tag","total","begin","length","where"]:=okK h rfl rfl S_Record__init_ (by decide+kernel) rfl
noncomputable def S_Record_end :Scope:=mkS [("self",lo)]
noncomputable def D_Record_end (G:Gl):DefAt G 305:=mkD "end" "Record.end" (dM 24 1) S_Record_end .none (.str "joinedhand.sfnt" 522) (.ref 304) .none
theorem ok_Record_end :(D_Record_end G).Ok ["self"]:=okK h rfl rfl S_Record_end (by decide+kernel) rfl
noncomputable def S_directory_size :Scope:=mkS [("count",lo),("HEADER_SIZE",gI),("RECORD_SIZE",gI)]
noncomputable def D_directory_size (G:Gl):DefAt G 319:=mkD "directory_size" "directory_size" (dF 25) S_directory_size .none (.str "joinedhand.sfnt" 522) (.ref 318) .none
theorem ok_directory_size :(D_directory_size G).Ok ["count"]:=okK h rfl rfl S_directory_size (by decide+kernel) rfl
noncomputable def S_read_record :Scope:=mkS [("data",lo),("where",lo),("reader",lo),("tag",lo),("total",lo),("begin",lo),("OctetsIn",gI),("Record",gI)]
noncomputable def D_read_record (G:Gl):DefAt G 326:=mkD "read_record" "read_record" (dF 26) S_read_record .none (.str "joinedhand.sfnt" 522) (.ref 325) .none
theorem ok_read_record :(D_read_record G).Ok ["data","where"]:=okK h rfl rfl S_read_record (by decide+kernel) rfl
noncomputable def S_need_in_order :Scope:=mkS [("records",lo),("size",lo),("at",lo),("one",lo),("range",gI),("len",gI),("FontFault",gI)]
noncomputable def D_need_in_order (G:Gl):DefAt G 333:=mkD "need_in_order" "need_in_order" (dF 27) S_need_in_order .none (.str "joinedhand.sfnt" 522) (.ref 332) .none
theorem ok_need_in_order :(D_need_in_order G).Ok ["records","size"]:=okK h rfl rfl S_need_in_order (by decide+kernel) rfl
noncomputable def S_need_apart :Scope:={kind:= .function,names:= [("records",.local),("begun",.local),("behind",.local),("line",.local),("at",.local),("sorted",.globalImplicit),("range",.globalImplicit),("len",.globalImplicit),("FontFault",.globalImplicit)],isGenerator:=false,isCoroutine:=false,more:= [("fast",(.str "records")),("fast",(.str "begun")),("fast",(.str "behind")),("fast",(.str "one")),("fast",(.str "line")),("fast",(.str "at"))]}
noncomputable def D_need_apart (G:Gl):DefAt G 338:=mkD "need_apart" "need_apart" (dF 28) S_need_apart .none (.str "joinedhand.sfnt" 522) (.ref 337) .none
theorem ok_need_apart :(D_need_apart G).Ok ["records","begun","behind"]:=okK h rfl rfl S_need_apart (by decide+kernel) rfl
noncomputable def S_read_records :Scope:={kind:= .function,names:= [("data",.cell),("begun",.local),("version",.local),("count",.local),("behind",.local),("records",.local),("len",.globalImplicit),("HEADER_SIZE",.globalImplicit),("FontFault",.globalImplicit),("u32_at",.globalImplicit),("VERSIONS",.globalImplicit),("OctetsIn",.globalImplicit),("directory_size",.globalImplicit),("range",.globalImplicit),("RECORD_SIZE",.globalImplicit),("need_in_order",.globalImplicit),("need_apart",.globalImplicit)],isGenerator:=false,isCoroutine:=false,more:= [("fast",(.str "data")),("fast",(.str "begun")),("fast",(.str "version")),("fast",(.str "count")),("fast",(.str "behind")),("fast",(.str "where")),("fast",(.str "records"))]}
noncomputable def D_read_records (G:Gl):DefAt G 343:=mkD "read_records" "read_records" (dF 29) S_read_records .none (.str "joinedhand.sfnt" 522) (.ref 342) .none
theorem ok_read_records :(D_read_records G).Ok ["data","begun"]:=okK h rfl rfl S_read_records (by decide+kernel) rfl
noncomputable def S_tables_of :Scope:={kind:= .function,names:= [("data",.cell),("records",.local),("dict",.globalImplicit)],isGenerator:=false,isCoroutine:=false,more:= [("fast",(.str "data")),("fast",(.str "records")),("fast",(.str "one"))]}
noncomputable def D_tables_of (G:Gl):DefAt G 348:=mkD "tables_of" "tables_of" (dF 30) S_tables_of .none (.str "joinedhand.sfnt" 522) (.ref 347) .none
theorem ok_tables_of :(D_tables_of G).Ok ["data","records"]:=okK h rfl rfl S_tables_of (by decide+kernel) rfl
noncomputable def S_is_collection :Scope:=mkS [("data",lo),("len",gI),("HEADER_SIZE",gI),("u32_at",gI),("COLLECTION",gI)]
noncomputable def D_is_collection (G:Gl):DefAt G 355:=mkD "is_collection" "is_collection" (dF 31) S_is_collection .none (.str "joinedhand.sfnt" 522) (.ref 354) .none
theorem ok_is_collection :(D_is_collection G).Ok ["data"]:=okK h rfl rfl S_is_collection (by decide+kernel) rfl
noncomputable def S_read_collection :Scope:=mkS [("data",lo),("reader",lo),("count",lo),("found",lo),("spot",lo),("version",lo),("records",lo),("is_collection",gI),("FontFault",gI),("OctetsIn",gI),("MOST_FONTS",gI),("len",gI),("HEADER_SIZE",gI),("range",gI),("read_records",gI),("tables_of",gI)]
noncomputable def D_read_collection (G:Gl):DefAt G 362:=mkD "read_collection" "read_collection" (dF 32) S_read_collection .none (.str "joinedhand.sfnt" 522) (.ref 361) .none
theorem ok_read_collection :(D_read_collection G).Ok ["data"]:=okK h rfl rfl S_read_collection (by decide+kernel) rfl
noncomputable def S_has_adjustment :Scope:=mkS [("tag",lo),("octets",lo),("len",gI),("ADJUSTMENT",gI)]
noncomputable def D_has_adjustment (G:Gl):DefAt G 369:=mkD "has_adjustment" "has_adjustment" (dF 33) S_has_adjustment .none (.str "joinedhand.sfnt" 522) (.ref 368) .none
theorem ok_has_adjustment :(D_has_adjustment G).Ok ["tag","octets"]:=okK h rfl rfl S_has_adjustment (by decide+kernel) rfl
noncomputable def S_unadjusted :Scope:=mkS [("tag",lo),("octets",lo),("has_adjustment",gI),("ADJUSTMENT",gI),("bytes",gI)]
noncomputable def D_unadjusted (G:Gl):DefAt G 376:=mkD "unadjusted" "unadjusted" (dF 34) S_unadjusted .none (.str "joinedhand.sfnt" 522) (.ref 375) .none
theorem ok_unadjusted :(D_unadjusted G).Ok ["tag","octets"]:=okK h rfl rfl S_unadjusted (by decide+kernel) rfl
noncomputable def S_table_sum :Scope:=mkS [("tag",lo),("octets",lo),("checksum",gI),("unadjusted",gI)]
noncomputable def D_table_sum (G:Gl):DefAt G 383:=mkD "table_sum" "table_sum" (dF 35) S_table_sum .none (.str "joinedhand.sfnt" 522) (.ref 382) .none
theorem ok_table_sum :(D_table_sum G).Ok ["tag","octets"]:=okK h rfl rfl S_table_sum (by decide+kernel) rfl
noncomputable def S_search_numbers :Scope:=mkS [("count",lo),("power",lo),("steps",lo),("RECORD_SIZE",gI)]
noncomputable def D_search_numbers (G:Gl):DefAt G 390:=mkD "search_numbers" "search_numbers" (dF 36) S_search_numbers .none (.str "joinedhand.sfnt" 522) (.ref 389) .none
theorem ok_search_numbers :(D_search_numbers G).Ok ["count"]:=okK h rfl rfl S_search_numbers (by decide+kernel) rfl
noncomputable def S_to_fours :Scope:=mkS [("octets",lo),("bytes",gI),("len",gI)]
noncomputable def D_to_fours (G:Gl):DefAt G 397:=mkD "to_fours" "to_fours" (dF 37) S_to_fours .none (.str "joinedhand.sfnt" 522) (.ref 396) .none
theorem ok_to_fours :(D_to_fours G).Ok ["octets"]:=okK h rfl rfl S_to_fours (by decide+kernel) rfl
noncomputable def S_need_tables :Scope:=mkS [("version",lo),("tables",lo),("tag",lo),("VERSIONS",gI),("FontFault",gI),("len",gI),("MOST_TABLES",gI),("min",gI),("max",gI)]
noncomputable def D_need_tables (G:Gl):DefAt G 404:=mkD "need_tables" "need_tables" (dF 38) S_need_tables .none (.str "joinedhand.sfnt" 522) (.ref 403) .none
theorem ok_need_tables :(D_need_tables G).Ok ["version","tables"]:=okK h rfl rfl S_need_tables (by decide+kernel) rfl
noncomputable def S_directory_octets :Scope:=mkS [("version",lo),("records",lo),("out",lo),("one",lo),("OctetsOut",gI),("len",gI),("search_numbers",gI)]
noncomputable def D_directory_octets (G:Gl):DefAt G 411:=mkD "directory_octets" "directory_octets" (dF 39) S_directory_octets .none (.str "joinedhand.sfnt" 522) (.ref 410) .none
theorem ok_directory_octets :(D_directory_octets G).Ok ["version","records"]:=okK h rfl rfl S_directory_octets (by decide+kernel) rfl
noncomputable def S_shared_spots :Scope:={kind:= .function,names:= [("fonts",.local),("begin",.local),("parts",.cell),("spots",.local),("places",.local),("version",.local),("tables",.cell),("found",.local),("taken",.cell),("tag",.cell),("free",.local),("sorted",.globalImplicit),("range",.globalImplicit),("len",.globalImplicit),("to_fours",.globalImplicit)],isGenerator:=false,isCoroutine:=false,more:= [("fast",(.str "fonts")),("fast",(.str "begin")),("fast",(.str "parts")),("fast",(.str "spots")),("fast",(.str "places")),("fast",(.str "version")),("fast",(.str "tables")),("fast",(.str "found")),("fast",(.str "taken")),("fast",(.str "tag")),("fast",(.str "at")),("fast",(.str "free")),("fast",(.str "one"))]}
noncomputable def D_shared_spots (G:Gl):DefAt G 416:=mkD "shared_spots" "shared_spots" (dF 40) S_shared_spots .none (.str "joinedhand.sfnt" 522) (.ref 415) .none
theorem ok_shared_spots :(D_shared_spots G).Ok ["fonts","begin"]:=okK h rfl rfl S_shared_spots (by decide+kernel) rfl
noncomputable def S_write_collection :Scope:={kind:= .function,names:= [("fonts",.local),("out",.local),("where",.local),("version",.local),("tables",.cell),("body",.local),("places",.cell),("at",.cell),("rows",.local),("len",.globalImplicit),("MOST_FONTS",.globalImplicit),("FontFault",.globalImplicit),("OctetsOut",.globalImplicit),("COLLECTION",.globalImplicit),("HEADER_SIZE",.globalImplicit),("need_tables",.globalImplicit),("directory_size",.globalImplicit),("shared_spots",.globalImplicit),("range",.globalImplicit),("sorted",.globalImplicit),("directory_octets",.globalImplicit)],isGenerator:=false,isCoroutine:=false,more:= [("fast",(.str "fonts")),("fast",(.str "out")),("fast",(.str "where")),("fast",(.str "version")),("fast",(.str "tables")),("fast",(.str "body")),("fast",(.str "places")),("fast",(.str "at")),("fast",(.str "tag")),("fast",(.str "rows"))]}
noncomputable def D_write_collection (G:Gl):DefAt G 421:=mkD "write_collection" "write_collection" (dF 41) S_write_collection .none (.str "joinedhand.sfnt" 522) (.ref 420) .none
theorem ok_write_collection :(D_write_collection G).Ok ["fonts"]:=okK h rfl rfl S_write_collection (by decide+kernel) rfl
noncomputable def S_law_pen :Scope:=mkS [("script",lo),("number",lo),("cell",lo),("abs",gI)]
noncomputable def D_law_pen (G:Gl):DefAt G 430:=mkD "_law_pen" "_law_pen" (dF 45) S_law_pen .none (.str "law_nu0227_01" 725) (.ref 429) .none
theorem ok_law_pen :(D_law_pen G).Ok ["script"]:=okK h rfl rfl S_law_pen (by decide+kernel) rfl
noncomputable def S_law_draw :Scope:=mkS [("pen",lo),("many",lo),("digit",lo)]
noncomputable def D_law_draw (G:Gl):DefAt G 437:=mkD "_law_draw" "_law_draw" (dF 46) S_law_draw .none (.str "law_nu0227_01" 725) (.ref 436) .none
theorem ok_law_draw :(D_law_draw G).Ok ["pen","many"]:=okK h rfl rfl S_law_draw (by decide+kernel) rfl
noncomputable def S_law_fonts :Scope:={kind:= .function,names:= [("pen",.cell),("fonts",.local),("pool",.local),("turn",.local),("tables",.local),("place",.local),("range",.globalImplicit),("bytes",.globalImplicit),("_law_draw",.globalImplicit),("_law_tags",.globalImplicit),("_law_versions",.globalImplicit)],isGenerator:=false,isCoroutine:=false,more:= [("fast",(.str "pen")),("fast",(.str "fonts")),("fast",(.str "pool")),("fast",(.str "turn")),("fast",(.str "spot")),("fast",(.str "tables")),("fast",(.str "place"))]}
noncomputable def D_law_fonts (G:Gl):DefAt G 442:=mkD "_law_fonts" "_law_fonts" (dF 47) S_law_fonts .none (.str "law_nu0227_01" 725) (.ref 441) .none
theorem ok_law_fonts :(D_law_fonts G).Ok ["pen"]:=okK h rfl rfl S_law_fonts (by decide+kernel) rfl
noncomputable def S_law_octets :Scope:={kind:= .function,names:= [("number",.cell),("count",.local),("bytes",.globalImplicit),("range",.globalImplicit)],isGenerator:=false,isCoroutine:=false,more:= [("fast",(.str "number")),("fast",(.str "count")),("fast",(.str "spot"))]}
noncomputable def D_law_octets (G:Gl):DefAt G 447:=mkD "_law_octets" "_law_octets" (dF 48) S_law_octets .none (.str "law_nu0227_01" 725) (.ref 446) .none
theorem ok_law_octets :(D_law_octets G).Ok ["number","count"]:=okK h rfl rfl S_law_octets (by decide+kernel) rfl
noncomputable def S_law_sum :Scope:={kind:= .function,names:= [("tag",.local),("octets",.cell),("len",.globalImplicit),("bytes",.globalImplicit),("sum",.globalImplicit),("range",.globalImplicit)],isGenerator:=false,isCoroutine:=false,more:= [("fast",(.str "tag")),("fast",(.str "octets")),("fast",(.str "at"))]}
noncomputable def D_law_sum (G:Gl):DefAt G 452:=mkD "_law_sum" "_law_sum" (dF 49) S_law_sum .none (.str "law_nu0227_01" 725) (.ref 451) .none
theorem ok_law_sum :(D_law_sum G).Ok ["tag","octets"]:=okK h rfl rfl S_law_sum (by decide+kernel) rfl
noncomputable def S_law_whole :Scope:={kind:= .function,names:= [("fonts",.local),("begun",.local),("version",.local),("tables",.local),("at",.local),("head",.local),("directories",.local),("bodies",.local),("spots",.local),("used",.local),("steps",.local),("row",.local),("tag",.local),("octets",.local),("turn",.local),("len",.globalImplicit),("sum",.globalImplicit),("_law_octets",.globalImplicit),("sorted",.globalImplicit),("bytes",.globalImplicit),("_law_sum",.globalImplicit)],isGenerator:=false,isCoroutine:=false,more:= [("fast",(.str "fonts")),("fast",(.str "begun")),("fast",(.str "version")),("fast",(.str "tables")),("fast",(.str "at")),("fast",(.str "head")),("fast",(.str "directories")),("fast",(.str "bodies")),("fast",(.str "spots")),("fast",(.str "used")),("fast",(.str "steps")),("fast",(.str "row")),("fast",(.str "tag")),("fast",(.str "octets")),("fast",(.str "turn"))]}
noncomputable def D_law_whole (G:Gl):DefAt G 457:=mkD "_law_whole" "_law_whole" (dF 50) S_law_whole .none (.str "law_nu0227_01" 725) (.ref 456) .none
theorem ok_law_whole :(D_law_whole G).Ok ["fonts"]:=okK h rfl rfl S_law_whole (by decide+kernel) rfl
noncomputable def S_law_is_refused :Scope:=mkS [("deed",lo),("worth",lo),("FontFault",gI)]
noncomputable def D_law_is_refused (G:Gl):DefAt G 464:=mkD "_law_is_refused" "_law_is_refused" (dF 51) S_law_is_refused .none (.str "law_nu0227_01" 725) (.ref 463) .none
theorem ok_law_is_refused :(D_law_is_refused G).Ok ["deed","worth"]:=okK h rfl rfl S_law_is_refused (by decide+kernel) rfl
noncomputable def S_law_lone :Scope:=mkS [("many",lo),("first",lo),("lone",lo),("_law_octets",gI),("bytes",gI)]
noncomputable def D_law_lone (G:Gl):DefAt G 471:=mkD "_law_lone" "_law_lone" (dF 52) S_law_lone .none (.str "law_nu0227_01" 725) (.ref 470) .none
theorem ok_law_lone :(D_law_lone G).Ok ["many"]:=okK h rfl rfl S_law_lone (by decide+kernel) rfl
noncomputable def S_law_many_right :Scope:=mkS [("way",lo),("font",lo),("len",gI),("write_collection",gI),("read_collection",gI),("_law_lone",gI),("_law_is_refused",gI)]
noncomputable def D_law_many_right (G:Gl):DefAt G 478:=mkD "_law_many_right" "_law_many_right" (dF 53) S_law_many_right .none (.str "law_nu0227_01" 725) (.ref 477) .none
theorem ok_law_many_right :(D_law_many_right G).Ok ["way"]:=okK h rfl rfl S_law_many_right (by decide+kernel) rfl
noncomputable def S_law :Scope:={kind:= .function,names:= [("script",.local),("pen",.local),("fonts",.local),("data",.local),("begun",.local),("hurt",.local),("cut",.local),("_law_pen",.globalImplicit),("_law_fonts",.globalImplicit),("write_collection",.globalImplicit),("_law_whole",.globalImplicit),("read_collection",.globalImplicit),("is_collection",.globalImplicit),("_law_is_refused",.globalImplicit),("len",.globalImplicit),("sum",.globalImplicit),("_law_draw",.globalImplicit),("bytes",.globalImplicit),("_law_many_right",.globalImplicit)],isGenerator:=false,isCoroutine:=false,more:= [("fast",(.str "script")),("fast",(.str "pen")),("fast",(.str "fonts")),("fast",(.str "data")),("fast",(.str "version")),("fast",(.str "tables")),("fast",(.str "begun")),("fast",(.str "hurt")),("fast",(.str "cut"))]}
noncomputable def D_law (G:Gl):DefAt G 483:=mkD "law" "law" (dF 54) S_law .none (.str "law_nu0227_01" 725) (.ref 482) .none
theorem ok_law :(D_law G).Ok ["script"]:=okK h rfl rfl S_law (by decide+kernel) rfl
theorem ns_check_room :nsIn G.frag mainGlobals "check_room"=some (some (.ref 82)):=nsK h rfl
theorem ns_number_at :nsIn G.frag mainGlobals "number_at"=some (some (.ref 89)):=nsK h rfl
theorem ns_u32_at :nsIn G.frag mainGlobals "u32_at"=some (some (.ref 96)):=nsK h rfl
theorem ns_OctetsIn :nsIn G.frag mainGlobals "OctetsIn"=some (some (.ref 180)):=nsK h rfl
theorem ns_number_octets :nsIn G.frag mainGlobals "number_octets"=some (some (.ref 189)):=nsK h rfl
theorem ns_OctetsOut :nsIn G.frag mainGlobals "OctetsOut"=some (some (.ref 272)):=nsK h rfl
theorem ns_checksum :nsIn G.frag mainGlobals "checksum"=some (some (.ref 283)):=nsK h rfl
theorem ns_Record :nsIn G.frag mainGlobals "Record"=some (some (.ref 308)):=nsK h rfl
theorem ns_FontFault :nsIn G.frag mainGlobals "FontFault"=some (some (.ref 73)):=nsK h rfl
theorem ns_directory_size :nsIn G.frag mainGlobals "directory_size"=some (some (.ref 319)):=nsK h rfl
theorem ns_read_record :nsIn G.frag mainGlobals "read_record"=some (some (.ref 326)):=nsK h rfl
theorem ns_need_in_order :nsIn G.frag mainGlobals "need_in_order"=some (some (.ref 333)):=nsK h rfl
theorem ns_need_apart :nsIn G.frag mainGlobals "need_apart"=some (some (.ref 338)):=nsK h rfl
theorem ns_read_records :nsIn G.frag mainGlobals "read_records"=some (some (.ref 343)):=nsK h rfl
theorem ns_tables_of :nsIn G.frag mainGlobals "tables_of"=some (some (.ref 348)):=nsK h rfl
theorem ns_is_collection :nsIn G.frag mainGlobals "is_collection"=some (some (.ref 355)):=nsK h rfl
theorem ns_read_collection :nsIn G.frag mainGlobals "read_collection"=some (some (.ref 362)):=nsK h rfl
theorem ns_has_adjustment :nsIn G.frag mainGlobals "has_adjustment"=some (some (.ref 369)):=nsK h rfl
theorem ns_unadjusted :nsIn G.frag mainGlobals "unadjusted"=some (some (.ref 376)):=nsK h rfl
theorem ns_table_sum :nsIn G.frag mainGlobals "table_sum"=some (some (.ref 383)):=nsK h rfl
theorem ns_search_numbers :nsIn G.frag mainGlobals "search_numbers"=some (some (.ref 390)):=nsK h rfl
theorem ns_to_fours :nsIn G.frag mainGlobals "to_fours"=some (some (.ref 397)):=nsK h rfl
theorem ns_need_tables :nsIn G.frag mainGlobals "need_tables"=some (some (.ref 404)):=nsK h rfl
theorem ns_directory_octets :nsIn G.frag mainGlobals "directory_octets"=some (some (.ref 411)):=nsK h rfl
theorem ns_shared_spots :nsIn G.frag mainGlobals "shared_spots"=some (some (.ref 416)):=nsK h rfl
theorem ns_write_collection :nsIn G.frag mainGlobals "write_collection"=some (some (.ref 421)):=nsK h rfl
theorem ns_law_pen :nsIn G.frag mainGlobals "_law_pen"=some (some (.ref 430)):=nsK h rfl
theorem ns_law_draw :nsIn G.frag mainGlobals "_law_draw"=some (some (.ref 437)):=nsK h rfl
theorem ns_law_fonts :nsIn G.frag mainGlobals "_law_fonts"=some (some (.ref 442)):=nsK h rfl
theorem ns_law_octets :nsIn G.frag mainGlobals "_law_octets"=some (some (.ref 447)):=nsK h rfl
theorem ns_law_sum :nsIn G.frag mainGlobals "_law_sum"=some (some (.ref 452)):=nsK h rfl
theorem ns_law_whole :nsIn G.frag mainGlobals "_law_whole"=some (some (.ref 457)):=nsK h rfl
theorem ns_law_is_refused :nsIn G.frag mainGlobals "_law_is_refused"=some (some (.ref 464)):=nsK h rfl
theorem ns_law_lone :nsIn G.frag mainGlobals "_law_lone"=some (some (.ref 471)):=nsK h rfl
theorem ns_law_many_right :nsIn G.frag mainGlobals "_law_many_right"=some (some (.ref 478)):=nsK h rfl
theorem ns_law :nsIn G.frag mainGlobals "law"=some (some (.ref 483)):=nsK h rfl
theorem ns_VERSIONS :nsIn G.frag mainGlobals "VERSIONS"=some (some (.ref 284)):=nsK h rfl
theorem ns_law_tags :nsIn G.frag mainGlobals "_law_tags"=some (some (.ref 422)):=nsK h rfl
theorem ns_law_versions :nsIn G.frag mainGlobals "_law_versions"=some (some (.ref 423)):=nsK h rfl
theorem ns_COLLECTION :nsIn G.frag mainGlobals "COLLECTION"=some (some (.int (1953784678) 531)):=nsK h rfl
theorem ns_HEADER_SIZE :nsIn G.frag mainGlobals "HEADER_SIZE"=some (some (.int (12) 533)):=nsK h rfl
theorem ns_RECORD_SIZE :nsIn G.frag mainGlobals "RECORD_SIZE"=some (some (.int (16) 535)):=nsK h rfl
theorem ns_ADJUSTMENT :nsIn G.frag mainGlobals "ADJUSTMENT"=some (some (.int (8) 537)):=nsK h rfl
theorem ns_MOST_FONTS :nsIn G.frag mainGlobals "MOST_FONTS"=some (some (.int (64) 539)):=nsK h rfl
theorem ns_MOST_TABLES :nsIn G.frag mainGlobals "MOST_TABLES"=some (some (.int (4095) 541)):=nsK h rfl
theorem ns_len :nsIn G.frag mainGlobals "len"=some none:=nsK h rfl
theorem ns_bytes :nsIn G.frag mainGlobals "bytes"=some none:=nsK h rfl
theorem ns_bytearray :nsIn G.frag mainGlobals "bytearray"=some none:=nsK h rfl
theorem ns_chr :nsIn G.frag mainGlobals "chr"=some none:=nsK h rfl
theorem ns_ord :nsIn G.frag mainGlobals "ord"=some none:=nsK h rfl
theorem ns_range :nsIn G.frag mainGlobals "range"=some none:=nsK h rfl
theorem ns_sorted :nsIn G.frag mainGlobals "sorted"=some none:=nsK h rfl
theorem ns_dict :nsIn G.frag mainGlobals "dict"=some none:=nsK h rfl
theorem ns_min :nsIn G.frag mainGlobals "min"=some none:=nsK h rfl
theorem ns_max :nsIn G.frag mainGlobals "max"=some none:=nsK h rfl
theorem ns_sum :nsIn G.frag mainGlobals "sum"=some none:=nsK h rfl
theorem ns_abs :nsIn G.frag mainGlobals "abs"=some none:=nsK h rfl
theorem ns_super :nsIn G.frag mainGlobals "super"=some none:=nsK h rfl
end
theorem Sit.upd {G:Gl}{C:Cx}{lv:List (Option AVal)}{K J:Kept}{m:Str→Option Value}{I:Addr}{o:Obj}(S:Sit G C lv K J m)(h0:C.h₀.get? I=none)(hI: ∀o',J I o'→Plain o'):Sit G C lv K (J.upd I o) m:=
 S.mapJ (fun a o' e q=>Kept.upd_other q fun z=>nomatch e.symm.trans ((congrArg C.h₀.get? z).trans h0)) (fun o' _ _ e q=>Kept.upd_other q fun z=>(hI o' (z▸q)).1 _ _ e) fun a o' _ e q=>Kept.upd_other q fun z=>(hI o' (z▸q)).2 _ e
theorem not_of_none {K J:Kept}{own:Led}{L:Addr}{m:Str→Option Value}{h:Heap}{a:Addr}(I:Inv K J own L m h)(e:h.get? a=none):(∀o,¬J a o)∧(∀o,¬K a o)∧a≠L:=by
 refine ⟨fun o z=>(nomatch (I.j _ _ z).symm.trans e),fun o z=>(nomatch (I.k _ _ z).symm.trans e),?_⟩
 rintro rfl
 exact I.ns.elim fun _ h=>h.elim fun _ h=>h.elim fun _ h=>nomatch h.1.symm.trans e
theorem Inv.addJ {K J:Kept}{l:Led}{L:Addr}{m:Str→Option Value}{h h':Heap}{a:Addr}{o:Obj}(I:Inv K J l L m h)(g:Grow L m h h')(hn:h.get? a=none)(ho:h'.get? a=some o):Inv K (J.upd a o) l L m h':=by
 have I':=I.grow g
 have aL:a≠L:=(not_of_none I hn).2.2
 refine {I' with j:=?_,oj:=?_,kj:=?_,jL:=?_}
 ·rintro b o' (⟨n,e⟩|⟨rfl,rfl⟩)
  ·exact I'.j b o' e
  ·exact ho
 ·rintro p hp o' (⟨n,e⟩|⟨e,rfl⟩)
  ·exact I.oj p hp o' e
  ·have:=I.ow p hp
   rw [e,hn] at this;cases this
 ·rintro b o' o'' q (⟨n,e⟩|⟨rfl,rfl⟩)
  ·exact I.kj b o' o'' q e
  ·have:=I.k _ _ q
   rw [hn] at this;cases this
 ·rintro o' (⟨n,e⟩|⟨e,_⟩)
  ·exact I.jL o' e
  ·exact aL e.symm
noncomputable def Kept.del (J:Kept)(I:Addr):Kept:=fun a o'=>a≠I∧J a o'
theorem Sit.del {G:Gl}{C:Cx}{lv:List (Option AVal)}{K J:Kept}{m:Str→Option Value}{I:Addr}(S:Sit G C lv K J m)(h0:C.h₀.get? I=none)(hI: ∀o',J I o'→Plain o'):Sit G C lv K (J.del I) m:=
 S.mapJ (fun a o' e q=>⟨fun z=>(nomatch e.symm.trans ((congrArg C.h₀.get? z).trans h0)),q⟩) (fun o' _ _ e q=>⟨fun z=>(hI o' (z▸q)).1 _ _ e,q⟩) fun a o' _ e q=>⟨fun z=>(hI o' (z▸q)).2 _ e,q⟩
theorem Inv.delJ {K J:Kept}{l:Led}{L:Addr}{m:Str→Option Value}{h h':Heap}{a:Addr}{o₀:Obj}(I:Inv K J l L m h)(hk: ∀b ob,b≠a→h.get? b=some ob→h'.get? b=some ob)(h0:J a o₀):Inv K (J.del a) l L m h':=by
 have aL:a≠L:=fun q=>I.jL o₀ (q▸h0)
 exact ⟨fun b o' e=>hk b o' (fun q=>I.kj b o' o₀ e (q▸h0)) (I.k b o' e),fun b o' e=>hk b o' e.1 (I.j b o' e.2),fun p hp=>hk _ _ (fun q=>I.oj p hp o₀ (q▸h0)) (I.ow p hp),I.nodup,I.ok,fun p hp o' e=>I.oj p hp o' e.2,fun b o' o'' q e=>I.kj b o' o'' q e.2,I.ns.at' fun o e=>hk _ o (Ne.symm aL) e,I.kL,fun o' e=>I.jL o' e.2,I.oL⟩
inductive IterOf :AVal→List AVal→Prop where
 |lst (vs:List AVal):IterOf (.lst vs) vs
 |tup (vs:List AVal):IterOf (.tup vs) vs
 |bytes (b:List UInt8):IterOf (.bytes b) (b.map fun c=> .int (c.toNat:Int))
 |dS (kvs:List (Str×AVal)) (hn:(kvs.map (·.1)).Nodup):IterOf (.dS kvs) (kvs.map fun p=> .str p.1)
 |str (y:Str):IterOf (.str y) (y.cps.toList.map fun c=> .str ⟨#[c]⟩)
 |rng (a c:Int) (n:Nat):IterOf (.rng a c n) ((List.range n).map fun i=> .int (a+(i:Nat)*c))
noncomputable abbrev special :List String:= ["enumerate","zip","dict_itemiterator","dict_reverseitemiterator","odict_iterator","itertools.zip_longest","itertools.pairwise"]
inductive ObF (o:Obj):Prop
 |mk (n:String) (fs:Array Value) (d:o.data= .fields fs) (c:o.cls= .type n) (sp:special.contains n=false)
inductive Itr (G:Gl)(A:Around)(K:Kept)(vs:List AVal)(I:Addr)(St:Nat→Heap→Prop):Prop
 |mk (fp:List Addr) (P:Nat→Value→Prop) (W:Walks G.prog G.w A I fp [I] vs.length P St) (hfp: ∀b∈fp,b=I∨ ∃o,K b o) (hP: ∀i v,P i v→ ∃av,vs[i]?=some av∧VRel G.w.params K av v)
  (hob: ∀i h,St i h→ ∃o,h.get? I=some o∧ObF o)
theorem plain_at {K J:Kept}{own:Led}{L:Addr}{m:Str→Option Value}{h:Heap}{a:Addr}{o:Obj}(I:Inv K J own L m h)(hJ:J a o)(f:ObF o)(o':Obj)(z:J a o'):Plain o':=by
 obtain ⟨n,fs,d,_,_⟩:=f
 obtain rfl:o'=o:=Option.some.inj ((I.j _ _ z).symm.trans (I.j _ _ hJ))
 constructor
 ·intro es ep q;rw [d] at q;cases q
 ·intro v q;rw [d] at q;cases q
theorem h0_none {G:Gl}{C:Cx}{lv:List (Option AVal)}{K J:Kept}{own:Led}{m:Str→Option Value}{h:Heap}{a:Addr}(S:Sit G C lv K J m)(I:Inv K J own C.L m h)(e:h.get? a=none):C.h₀.get? a=none:=by
 cases q:C.h₀.get? a with
 |none=>rfl
 |some o=>exact nomatch ((S.fr I).keep _ _ q).symm.trans e
theorem Sit.notCell {G:Gl}{C:Cx}{lv:List (Option AVal)}{K J:Kept}{m:Str→Option Value}{a:Addr}(S:Sit G C lv K J m)(nJ: ∀o,¬J a o):a∉C.cells:=fun hc=>(S.cs _ hc).elim fun _ h=>h.elim fun _ h=>nJ _ h.1
theorem one_other {a:Addr}{h h':Heap}(z: ∀b ob,b∉ [a]→h.get? b=some ob→h'.get? b=some ob)(b:Addr)(ob:Obj)(hb:b≠a)(e:h.get? b=some ob):h'.get? b=some ob:=z b ob (fun q=>hb (List.mem_singleton.mp q)) e
theorem walks_frame {G:Gl}{A:Around}{n:Nat}{It:Addr}{fp:List Addr}{P:Nat→Value→Prop}{St:Nat→Heap→Prop}(W:Walks G.prog G.w A It fp [It] n P St){K:Kept}(hfp: ∀b∈fp,b=It∨ ∃o,K b o)
  {i:Nat}{K₁ J₁ K₂ J₂:Kept}{own₁ own₂:Led}{L₁ L₂:Addr}{m₁ m₂:Str→Option Value}{h₁ h₂:Heap}{o:Obj}(st:St i h₁) (I₁:Inv K₁ J₁ own₁ L₁ m₁ h₁) (k₁: ∀a o,K a o→K₁ a o) (e:h₁.get? It=some o)
  (I₂:Inv K₂ J₂ own₂ L₂ m₂ h₂) (k₂: ∀a o,K a o→K₂ a o) (j:J₂ It o):St i h₂:=W.frame _ _ _ st fun b hb ob q=>by
 rcases hfp b hb with rfl|⟨ob',hk⟩
 ·exact Option.some.inj (e.symm.trans q)▸I₂.j _ _ j
 ·exact Option.some.inj ((I₁.k _ _ (k₁ _ _ hk)).symm.trans q)▸I₂.k _ _ (k₂ _ _ hk)
theorem letGo_plain {G:Gl}{A:Around}{target:Expr}{I:Addr}{v:Value}{o:Obj}{s:Shared}{Q:Unit→Shared→Prop}{E:Value→Shared→Prop}
  (ho:s.heap.get? I=some o) (f:ObF o) (h:Q () s):wpAny (model G.prog G.w) A (letOwnedTupleGo target (.ref I) v) Q E s:=by
 have key: ∀a,wpAny (model G.prog G.w) A (do
   let o←load I
   match o.cls,o.data with
   | .type n,.fields vs=>
    if ["enumerate","zip","dict_itemiterator","dict_reverseitemiterator","odict_iterator","itertools.zip_longest","itertools.pairwise"].contains n&&vs[0]?==some (rawInt a) then
     rule "for.unpacks-the-owned-tuple"
     updateField I 0 .none
   |_,_=>pure ()) Q E s:=fun a=>by
  refine wpAny_bind (wpAny_load ho ?_)
  obtain ⟨n,fs,hd,hc,hn⟩:=f
  refine rwG (hc ..) ?_;refine rwG (hd ..) ?_
  show wpAny _ A (if (special.contains n&&fs[0]?==some (rawInt a))=true then _ else _) Q E s
  refine rwG (hn ..) ?_;refine rwG (Bool.false_and ..) ?_;refine rwG (if_neg (by decide) ..) ?_
  exact wpAny_pure h
 have two: ∀p,wpAny (model G.prog G.w) A (letOwnedTupleGo (.List [] p) (.ref I) v) Q E s:=fun p=>by
  cases v<;>first|exact key _|exact wpAny_pure h
 cases target<;>first|exact wpAny_pure h|exact two default
theorem held_back {M:Model}{C:Cx}{x:Prop}{s:Shared}(hef:C.env.frame=some C.L)(hx:x){e t tk:Nat}{vs:List Value}{g₂ B h:Heap}{m:Str→Option Value}
  (hB:C.base.StaysIn B) (hBG: ∀b o,g₂.get? b=some o→b∉(C.fenv::C.outer).filterMap (·.frame)→B.get? b=some o) (hH:Heap.HeldW B (C.fenv::C.outer) e (.ref clsFont) (.ref t) C.L h) (hnew:B.get? t=none) (htup:h.TupAt t vs) (F:Fr C.h₀ C.L g₂ m) (U:g₂.UpToSlots h):
  cameBackBy M C.A C.env (fun ev s'=>x∧Thrown C s ev s') (.ref e) {s with heap:=h,toks:=tk}:=by
 refine hideG fun M kM=>?_
 obtain ⟨f1,f2,f3,oe,fs,T,oT,ts,he,hcls,hd,h1,hnT,hTe,hT,hdT,h3⟩:=hH
 refine kM ?_
 clear kM
 unfold cameBackBy
 refine wpAny_bind (wpAny_field he hd h1 ?_)
 refine wp_neg (show¬((Value.ref T==Value.none)=true) from by simp) ?_
 unfold setFlight
 refine wpAny_bind (wpAny_field he hd h1 ?_)
 refine rwG (if_pos (show (Value.ref T !=Value.none)=true from by simp)) ?_;refine rwG (hef ..) ?_
 have hsz3:3<ts.size:=(Array.getElem?_eq_some_iff.mp h3).1
 have other: ∀b,b≠T→(h.update T (Obj.mapFields (·.setIfInBounds 3 ((some C.L:Option Addr).elim Value.none fun f=>rawInt f)))).get? b=h.get? b:=fun b hb=>Heap.get?_update_other _ _ (Ne.symm hb)
 have noRecord: ∀b o,h.get? b=some o→(∀vs,o.data≠ .fields vs)→b≠T:=fun b o hb hnf q=>by
  rw [q,hT] at hb;injection hb with hb;subst hb;exact hnf ts hdT
 have up:h.UpToSlots (h.update T (Obj.mapFields (·.setIfInBounds 3 ((some C.L:Option Addr).elim Value.none fun f=>rawInt f)))):=fun b o hb hn=>⟨o.slots,(other b (noRecord b o hb hn)).trans hb⟩
 refine wpAny_setField hT hdT hsz3 ⟨hx,.held ⟨e,t,vs,_,tk,g₂,m,B,rfl,rfl,hB,hBG,⟨fun b o hbo=>(other b fun q=>by rw [q,hnT] at hbo;cases hbo).trans (f1 b o hbo),f2,f3.of_keeps fun b o hb hnf=>⟨o,(other b (noRecord b o hb hnf)).trans hb,rfl⟩,
  oe,fs,T,_,_,(other e (Ne.symm hTe)).trans he,hcls,hd,h1,hnT,hTe,Heap.get?_update_self _ hT (Obj.isFreed_of_fields (Obj.data_mapFields hdT _)),Obj.data_mapFields hdT _,by simp [hsz3]⟩,hnew,htup.of_slots up,F,U.trans up⟩⟩
theorem Thrown.noted {G:Gl}{C:Cx}{x:Prop}{s:Shared}{K J:Kept}{m₀:Str→Option Value}{lv:List (Option AVal)}(S:Sit G C lv K J m₀)(hE:C.env=C.fenv){ev:Value}{s':Shared}(hx:x)(t:Thrown C s ev s'):
  notedBy (model G.prog G.w) C.A C.env (fun e s'=>cameBackBy (model G.prog G.w) C.A C.env (fun ev s'=>x∧Thrown C s ev s') e s') ev s':=by
 unfold notedBy
 cases t with
 |flown fl=>
  obtain ⟨e,t,vs',h',tk',g₂,m',rfl,rfl,⟨⟨B,hB,hBG,hl,hfl,hnew⟩,htup⟩,F₂,U⟩:=fl
  refine rwG (hE ..) ?_
  refine wpAny_looks_onW S.hA S.hf hfl fun h'' x1 x2=>?_
  refine rwGr (hE ..) ?_
  exact held_back S.hef hx hB hBG x1 hnew (htup.of_slots x2) F₂ (U.trans x2)
 |held fl=>
  obtain ⟨e,t,vs',h',tk',g₂,m',B,rfl,rfl,hB,hBG,hfl,hnew,htup,F₂,U⟩:=fl
  exact wpAny_noteFrame_againW S.hef hfl.2.2.2 (held_back S.hef hx hB hBG hfl hnew htup F₂ U)
 |fresh fl=>
  obtain ⟨e,t,vs',h',tk',g₂,m',oe,fs,rfl,rfl,F₂,up,he,hc,hd,hf0,hf1,hne,hnt,htup⟩:=fl
  refine hideG fun M kM=>?_
  obtain ⟨B,b1,b2,b3,b4,b5⟩:=fresh_ground (fenv:=C.fenv) S.below F₂ S.hf S.hke up
  refine kM ?_
  clear kM
  refine rwG (hE ..) ?_
  unfold noteFrame
  simp only [S.hf]
  refine wpAny_bind (wpAny_field he hd hf1 ?_)
  refine wp_neg (by decide) ?_
  refine wpAny_entryW S.hA b3 S.hf he b2 (b4 _ hne) hd (Array.getElem?_eq_some_iff.mp hf1).1 hf0 fun h'' hN=>?_
  refine hideG fun M kM=>?_
  obtain ⟨k1,k2,k3,k4⟩:=hN
  refine kM ?_
  clear kM
  rw [hc] at k3
  refine rwGr (hE ..) ?_
  have k4':h'.UpToSlots h'':=k4
  exact held_back S.hef hx b1 b5 ⟨k1,b4 _ hne,k2,k3⟩ (b4 _ hnt) (htup.of_slots k4') F₂ ((Heap.UpToSlots.of_keeps up).trans k4')
section
variable {G:Gl}{C:Cx}{lv:List (Option AVal)}{σ:Own}{x:Prop}
theorem grow_push {L:Addr}{m:Str→Option Value}{h:Heap}(o:Obj)(n:h.Ns L m):Grow L m h (h.push o):=⟨fun a o' _ e=>Heap.get?_push_of_some _ e,n.keeps fun a o' e=>Heap.get?_push_of_some _ e⟩
theorem size_none (h:Heap):h.get? h.objs.size=none:=by
 cases e:h.get? h.objs.size with
 |none=>rfl
 |some o=>exact absurd (Heap.lt_size e) (Nat.lt_irrefl _)
theorem seq_list {h:Heap}{a:Addr}{cvs:List Value}{n:Nat}(e:h.get? a=some (seqObj "list" cvs n)):h.IsList a cvs.toArray:=⟨_,e,rfl,n,rfl⟩
theorem seq_tuple {h:Heap}{a:Addr}{cvs:List Value}{n:Nat}(e:h.get? a=some (seqObj "tuple" cvs n)):h.IsTuple a cvs.toArray:=⟨_,e,rfl,n,rfl⟩
theorem ERelS.keysOf (prog:Program){w:World}{K:Kept}{kvs:List (Str×AVal)}{es:List DictEntry}(h:ERelS w.params K kvs es): ∀e∈es,∃k,(PySem.strKind prog w).is k e.key=true∧e.hash=(PySem.strKind prog w).hash k:=by
 induction kvs generalizing es with
 |nil=>exact h.nilE fun _ he=>nomatch he
 |cons p r ih=>
  refine h.consE fun t c l _ hs e he=>?_
  rcases List.mem_cons.mp he with rfl|he
  ·exact ⟨p.1,by simp [PySem.strKind,Value.isStrOf],rfl⟩
  ·exact ih hs e he
theorem ERelS.pairs (prog:Program){w:World}{K:Kept}{kvs:List (Str×AVal)}{es:List DictEntry}(h:ERelS w.params K kvs es): ∃cks:List (Str×Value),Pairs (PySem.strKind prog w) es cks∧cks.map (·.1)=kvs.map (·.1)∧KeysOf (PySem.strKind prog w) es.toArray:=by
 refine (fun ⟨c,a,b⟩=>⟨c,a,b,fun e he=>h.keysOf prog e (by simpa using he)⟩:(∃cks:List (Str×Value),Pairs (PySem.strKind prog w) es cks∧cks.map (·.1)=kvs.map (·.1))→_) ?_
 induction kvs generalizing es with
 |nil=>exact h.nilE ⟨[],.nil,rfl⟩
 |cons p r ih=>
  refine h.consE fun t c l _ hs=>?_
  obtain ⟨cks,h1,h2⟩:=ih hs
  exact ⟨(p.1,c)::cks,.cons (by simp [PySem.strKind,Value.isStrOf]) rfl h1,by rw [List.map_cons,List.map_cons,h2]⟩
theorem VRels.getC {P:Params}{K:Kept}{vs:List AVal}{cvs:List Value}(h:VRels P K vs cvs){i:Nat}{c:Value}(e:cvs[i]?=some c): ∃v,vs[i]?=some v∧VRel P K v c:=by
 induction vs generalizing cvs i with
 |nil=>
  revert e
  exact h.nilE fun e=>nomatch e
 |cons v vs ih=>
  revert e
  refine h.consE fun c' r a b e=>?_
  cases i with
  |zero=>cases e;exact ⟨v,rfl,a⟩
  |succ i=>exact ih b e
theorem iter_of {A:Around}(hA:A.handled=none){v:AVal}{vs:List AVal}(hI:IterOf v vs){K J:Kept}{m:Str→Option Value}{own:Led}{s:Shared}{cv:Value}{L:Addr}(I:Inv K J own L m s.heap)(r:VRel G.w.params K v cv)
  {Q:Value→Shared→Prop}{E:Value→Shared→Prop}(k: ∀It St h' tk,Grow L m s.heap h'→s.heap.get? It=none→Itr G A K vs It St→St 0 h'→Q (.ref It) {s with heap:=h',toks:=tk}):
  wpAny (model G.prog G.w) A (pyIter cv) Q E s:=by
 have n0:=size_none s.heap
 have neK: ∀a o,K a o→a≠s.heap.objs.size:=fun a o e q=>by
  have:=I.k a o e
  rw [q,n0] at this;cases this
 cases hI with
 |lst vs=>
  refine r.lstE fun a cvs n hk hv=>?_
  have hl:=seq_list (I.k _ _ hk)
  refine wpAny_pyIter_list hl ?_
  refine k _ (fun i h=>h.IsListIter s.heap.objs.size a i∧h.IsList a cvs.toArray) _ s.toks (grow_push _ I.ns) n0 ⟨_,_,by simpa [hv.length] using Walks.list hA s.heap.objs.size a (neK _ _ hk) cvs.toArray,?_,?_,?_⟩ ⟨⟨_,Heap.get?_push_size _ rfl,rfl,rfl⟩,hl.at fun o e=>Heap.get?_push_of_some _ e⟩
  ·intro b hb
   exact (List.mem_cons.mp hb).imp id fun e=>⟨_,List.mem_singleton.mp e▸hk⟩
  ·intro i v e
   exact hv.getC (by simpa using e)
  ·rintro i h ⟨⟨o,h1,h2,h3⟩,_⟩
   exact ⟨o,h1,_,_,h3,h2,by decide⟩
 |tup vs=>
  refine r.tupE fun a cvs n hk hv=>?_
  have hl:=seq_tuple (I.k _ _ hk)
  refine wpAny_pyIter_tuple hl ?_
  refine k _ (fun i h=>h.IsTupleIter s.heap.objs.size a i∧h.IsTuple a cvs.toArray) _ s.toks (grow_push _ I.ns) n0 ⟨_,_,by simpa [hv.length] using Walks.tuple hA s.heap.objs.size a (neK _ _ hk) cvs.toArray,?_,?_,?_⟩ ⟨⟨_,Heap.get?_push_size _ rfl,rfl,rfl⟩,hl.at fun o e=>Heap.get?_push_of_some _ e⟩
  ·intro b hb
   exact (List.mem_cons.mp hb).imp id fun e=>⟨_,List.mem_singleton.mp e▸hk⟩
  ·intro i v e
   exact hv.getC (by simpa using e)
  ·rintro i h ⟨⟨o,h1,h2,h3⟩,_⟩
   exact ⟨o,h1,_,_,h3,h2,by decide⟩
 |bytes b=>
  refine r.bytesE fun t=>?_
  refine KBw.pyIter_bytes ?_
  refine k _ (fun i h=>KBw.IsBytesIter h s.heap.objs.size b.toArray t i) _ s.toks (grow_push _ I.ns) n0 ⟨_,_,by have W:=KBw.walks (prog:=G.prog) (w:=G.w) hA s.heap.objs.size b.toArray t;rwa [show b.toArray.size=(b.map fun c=>AVal.int (c.toNat:Int)).length by simp] at W,?_,?_,?_⟩ ⟨_,Heap.get?_push_size _ rfl,rfl,rfl⟩
  ·intro c hb
   exact .inl (List.mem_singleton.mp hb)
  ·rintro i v ⟨c,u,e,rfl⟩
   have e':b[i]?=some c:=by simpa using e
   exact ⟨.int (c.toNat:Int),by rw [List.getElem?_map,e'];rfl,.int _ _⟩
  ·rintro i h ⟨o,h1,h2,h3⟩
   exact ⟨o,h1,_,_,h3,h2,by decide⟩
 |str y=>
  refine r.strE fun t=>?_
  have key: ∀i v,SignAt y i v→ ∃av,(y.cps.toList.map fun c=>AVal.str ⟨#[c]⟩)[i]?=some av∧VRel G.w.params K av v:=by
   rintro i v ⟨c,u,e,rfl⟩
   have e':y.cps.toList[i]?=some c:=by simpa using e
   exact ⟨.str ⟨#[c]⟩,by rw [List.getElem?_map,e'];rfl,.str _ _⟩
  have hlen:y.cps.size=(y.cps.toList.map fun c=>AVal.str ⟨#[c]⟩).length:=by simp
  cases ha:y.cps.all (· <128)
  ·refine wpAny_pyIter_wide ha ?_
   refine k _ (fun i h=>h.IsStrIter s.heap.objs.size "str_iterator" y t i) _ s.toks (grow_push _ I.ns) n0 ⟨_,_,by have W:=Walks.strWide (prog:=G.prog) (w:=G.w) hA s.heap.objs.size y t;rwa [hlen] at W,?_,key,?_⟩ ⟨_,Heap.get?_push_size _ rfl,rfl,rfl⟩
   ·intro c hb
    exact .inl (List.mem_singleton.mp hb)
   ·rintro i h ⟨o,h1,h2,h3⟩
    exact ⟨o,h1,_,_,h3,h2,by decide⟩
  ·refine wpAny_pyIter_ascii ha ?_
   refine k _ (fun i h=>h.IsStrIter s.heap.objs.size "str_ascii_iterator" y t i) _ s.toks (grow_push _ I.ns) n0 ⟨_,_,by have W:=Walks.strAscii (prog:=G.prog) (w:=G.w) hA s.heap.objs.size y t;rwa [hlen] at W,?_,key,?_⟩ ⟨_,Heap.get?_push_size _ rfl,rfl,rfl⟩
   ·intro c hb
    exact .inl (List.mem_singleton.mp hb)
   ·rintro i h ⟨o,h1,h2,h3⟩
    exact ⟨o,h1,_,_,h3,h2,by decide⟩
 |rng a c n=>
  refine r.rngE fun _ _ _ _ _ hk hs hn=>?_
  refine wpAny_pyIter_range (I.k _ _ hk) hs ?_
  refine rwG (hn ..) ?_
  refine k _ (fun i h=>IsRangeIter h s.heap.objs.size (a+(i:Nat)*c) ((n:Int) - (i:Nat)) c) _ s.toks (grow_push _ I.ns) n0 ⟨_,_,by rw [List.length_map,List.length_range];exact (Walks.range (prog:=G.prog) (w:=G.w) hA s.heap.objs.size a c n).bound,?_,?_,?_⟩ (by
   have:=Heap.get?_push_size s.heap (o:={cls:= .type "range_iterator",data:= .fields #[rawInt a,rawInt n,rawInt c]}) rfl
   simpa [IsRangeIter] using this)
  ·intro c hb
   exact .inl (List.mem_singleton.mp hb)
  ·rintro i v ⟨hi,t,rfl⟩
   exact ⟨.int (a+(i:Nat)*c),by simp [hi],.int _ _⟩
  ·intro i h e
   exact ⟨_,e,_,_,rfl,rfl,by decide⟩
 |dS kvs hnd=>
  refine r.dSE fun a es n hk hv hsys=>?_
  refine hideG fun M kM=>?_
  obtain ⟨cks,h1,h2,h3⟩:=hv.pairs G.prog
  refine kM ?_
  clear kM
  have hl:s.heap.DictAt (PySem.strKind G.prog G.w) a cks n:=⟨_,_,I.k _ _ hk,⟨rfl,rfl,rfl⟩,rfl,h3,h1,by rw [h2];exact hnd⟩
  have hlen:cks.length=kvs.length:=by simpa using congrArg List.length h2
  refine wpAny_pyIter_dict (beq_eq_false_iff_ne.mpr hsys) hl ?_
  refine k _ (fun i h=>h.IsKeyIter s.heap.objs.size a i cks.length n∧h.DictAt (PySem.strKind G.prog G.w) a cks n) _ s.toks (grow_push _ I.ns) n0
   ⟨_,_,by have W:=Walks.dictKeys (prog:=G.prog) (w:=G.w) (knd:=PySem.strKind G.prog G.w) hA s.heap.objs.size a (neK _ _ hk) cks n;rw [show cks.length=(kvs.map fun p=>AVal.str p.1).length by simp [hlen]] at W⊢;exact W,?_,?_,?_⟩ ⟨⟨_,Heap.get?_push_size _ rfl,rfl,rfl⟩,hl.at' fun o e=>Heap.get?_push_of_some _ e⟩
  ·intro b hb
   exact (List.mem_cons.mp hb).imp id fun e=>⟨_,List.mem_singleton.mp e▸hk⟩
  ·rintro i v ⟨kk,xx,e,hv'⟩
   obtain ⟨t,rfl⟩:=Value.isStrOf_shape hv'
   have e':(kvs.map (·.1))[i]?=some kk:=by rw [←h2,List.getElem?_map,e];rfl
   rw [List.getElem?_map] at e'
   refine ⟨.str kk,?_,.str _ _⟩
   refine rwG (List.getElem?_map ..) ?_
   cases q:kvs[i]? with
   |none=>rw [q] at e';cases e'
   |some p=>
    rw [q] at e'
    simp at e'
    simp [e']
  ·rintro i h ⟨⟨o,h1,h2,h3⟩,_⟩
   exact ⟨o,h1,_,_,h3,h2,by decide⟩
inductive ForI (G:Gl)(C:Cx)(K J:Kept)(s:Shared)(len:Nat)(Φ:Nat→List (Option AVal)→Own→Prop)(It:Addr)(St:Nat→Heap→Prop)(k:Nat)(s':Shared):Prop where
 |mk (i:Nat) (K' J':Kept) (own':Led) (lv':List (Option AVal)) (σ':Own) (m':Str→Option Value) (h':Heap) (tk':Nat) (o:Obj) (e1:k=len+1 - i) (e2:i≤len) (e3:s'={s with heap:=h',toks:=tk'}) (hk: ∀a o,K a o→K' a o) (hj: ∀a o,J a o→a∉C.cells→J' a o)
  (S:Sit G C lv' K' J' m') (I:Inv K' J' own' C.L m' h') (O:Owns G.w.params K' σ' own') (hΦ:Φ i lv' σ') (st:St i h') (jI:J' It o) (f:ObF o)
theorem Ex.for {target iter:Expr}{body:List Stmt}{pos:Pos}{Qn:List (Option AVal)→Own→Prop}{Qr:AVal→Own→Prop}(vs:List AVal)(Φ:Nat→List (Option AVal)→Own→Prop)
  (hit:Ev G C lv σ iter (fun v σ₁=>IterOf v vs∧Φ 0 lv σ₁) x)
  (turn: ∀i v lv σ,vs[i]?=some v→Φ i lv σ→Sto G C lv σ (fun cv=>PySem.assign target C.env cv) v (fun lv' σ'=>Ex G C lv' σ' (execs body C.env) (Φ (i+1)) Qr x) x)
  (done: ∀lv σ,Φ vs.length lv σ→Qn lv σ)
  (hE:C.env=C.fenv:=by rfl)
  (hs: ∀y,foldedSetIterable iter C.env y=pure y:=by intro _;rfl):Ex G C lv σ (exec (.For target iter body [] pos) C.env) Qn Qr x:=fun K J m own s S I O=>by
 refine wpAny_For (hit.seq S I O (fun K₁ own₁ v σ₁ h₁ tk₁ cv k₁ I₁ O₁ r₁ S₁ q₁=>?_) fun _ _ f=>⟨f.1,.flown f.2⟩) hs
 obtain ⟨hI,hΦ⟩:=q₁
 refine iter_of S.hh hI I₁ r₁ fun It St h₂ tk₂ g hIt W st=>?_
 obtain ⟨fp,P,W,hfp,hP,hob⟩:=W
 refine (hob 0 _ st).elim fun o₀ hi=>?_
 have hI0:C.h₀.get? It=none:=h0_none S₁ I₁ hIt
 have nJ:=(not_of_none I₁ hIt).1
 have hIc:=S.notCell nJ
 have I₂:=I₁.addJ g hIt hi.1
 have S₂:Sit G C lv K₁ (J.upd It o₀) m:=S₁.upd hI0 fun o' z=>(nJ o' z).elim
 refine codeAny_forLoop_any (ForI G C K₁ J s vs.length Φ It St) ?_ (vs.length+1) ?_
 ·rintro k s' ⟨i,K',J',own',lv',σ',m',h',tk',o,rfl,hle,rfl,hk',hj',S',I',O',hΦ',st',hJo,ho⟩
  have pl:=plain_at I' hJo ho
  by_cases hi:i<vs.length
  ·refine W.item i _ _ _ hi st' fun cv' h'' tk'' hp st'' hkeep=>?_
   refine (hP _ _ hp).elim fun av ha=>?_
   refine (hob _ _ st'').elim fun o' he=>?_
   have I'':=I'.updJ (one_other hkeep) hJo he.1
   have S'':Sit G C lv' K' (J'.upd It o') m':=S'.upd hI0 pl
   refine letGo_plain he.1 he.2 ?_
   have T:=turn i av lv' σ' ha.1 hΦ'
   refine wpAny_mono (T K' _ m' own' {s with heap:=h'',toks:=tk''} cv' S'' I'' O' (ha.2.mono hk')) (fun _ s₃ p=>?_) fun ev s₃ f=>?_
   ·obtain ⟨K₃,J₃,own₃,lv₃,σ₃,m₃,h₃,tk₃,rfl,k₃,j₃,S₃,I₃,O₃,q⟩:=p
    refine wpAny_mono (q K₃ J₃ m₃ own₃ _ S₃ I₃ O₃) (fun fl s₄ p=>?_) fun ev s₄ f=>?_
    ·obtain ⟨K₄,J₄,own₄,lv₄,σ₄,m₄,h₄,tk₄,rfl,k₄,j₄,S₄,I₄,O₄,q⟩:=p
     have hK: ∀a o,K₁ a o→K₄ a o:=fun a o z=>k₄ _ _ (k₃ _ _ (hk' _ _ z))
     have hJ: ∀a ob,J a ob→a∉C.cells→J₄ a ob:=fun a ob z nc=>j₄ _ _ (j₃ _ _ (Kept.upd_other (hj' _ _ z nc) fun q=>nJ _ (q▸z)) nc) nc
     have hIt4:J₄ It o':=j₄ _ _ (j₃ _ _ Kept.upd_self hIc) hIc
     rcases q with ⟨rfl,q⟩|⟨cv,v,rfl,rv,q⟩
     ·exact ⟨vs.length+1 - (i+1),subL hi,i+1,K₄,J₄,own₄,lv₄,σ₄,m₄,h₄,tk₄,o',rfl,hi,rfl,hK,hJ,S₄,I₄,O₄,q,walks_frame W hfp st'' I'' hk' he.1 I₄ hK hIt4,hIt4,he.2⟩
     ·exact ⟨K₄,J₄,own₄,lv₄,σ₄,m₄,h₄,tk₄,rfl,fun a o z=>hK _ _ (k₁ _ _ z),hJ,S₄,I₄,O₄,.inr ⟨cv,v,rfl,rv,q⟩⟩
    ·exact Thrown.noted S hE f.1 (Thrown.start (h:=_) (tk:=_) rfl (f.2.start rfl))
   ·exact Thrown.noted S hE f.1 (f.2.start rfl)
  ·have:i=vs.length:=Nat.le_antisymm hle (Nat.not_lt.mp hi)
   subst this
   refine W.done _ _ _ st' fun h'' tk'' hkeep=>?_
   exact wpAny_pure ⟨K',J'.del It,own',lv',σ',m',h'',tk'',rfl,fun a o z=>hk' _ _ (k₁ _ _ z),fun a ob z nc=>⟨fun q=>nJ _ (q▸z),hj' _ _ z nc⟩,S'.del hI0 pl,I'.delJ (one_other hkeep) hJo,O',.inl ⟨rfl,done _ _ hΦ'⟩⟩
 ·exact ⟨0,K₁,J.upd It o₀,own₁,lv,σ₁,m,h₂,tk₂,o₀,rfl,Nat.zero_le _,rfl,fun _ _ e=>e,fun a o z _=>Kept.upd_other z fun q=>nJ _ (q▸z),S₂,I₂,O₁,hΦ,st,Kept.upd_self,hi.2⟩
end
theorem closureFor_eq {env:Env}{names:List (Str×NameKind)}(acc:List (Str×Addr))(hs: ∀y∈names,y.2= .free→(env.cells.lookup y.1).isSome=true)(ha: ∀y c,acc.lookup y=some c→env.cells.lookup y=some c):
  ∃cl,(forIn (m:=Sem) names acc (fun (x:Str×NameKind) cs=>do
   if x.2== .free then
    let a←cellOf env x.1
    pure (ForInStep.yield ((x.1,a)::cs))
   else pure (ForInStep.yield cs)))=pure cl∧(∀y c,cl.lookup y=some c→env.cells.lookup y=some c)∧((∀y c,acc.lookup y=some c→(cl.lookup y).isSome=true)∧ ∀y,(y,NameKind.free)∈names→(cl.lookup y).isSome=true):=by
 induction names generalizing acc with
 |nil=>exact ⟨acc,rfl,ha,fun y c e=>by rw [e];rfl,fun y h=>nomatch h⟩
 |cons p r ih=>
  obtain ⟨n,k⟩:=p
  rw [List.forIn_cons]
  by_cases hk:k= .free
  ·subst hk
   refine hideG fun M kM=>?_
   obtain ⟨a,hl⟩:=Option.isSome_iff_exists.mp (hs (n,.free) List.mem_cons_self rfl)
   obtain ⟨cl,h1,h2,h3,h4⟩:=ih ((n,a)::acc) (fun y hy=>hs y (List.mem_cons_of_mem _ hy)) (fun y c e=>by
    rw [List.lookup_cons] at e
    split at e
    ·rename_i q
     cases e
     rw [eq_of_beq q];exact hl
    ·exact ha y c e)
   refine kM ?_
   clear kM
   refine ⟨cl,?_,h2,fun y c e=>?_,fun y hy=>?_⟩
   ·have hc:cellOf env n=pure a:=by
     unfold cellOf;rw [show env.cells.lookup n=some a from hl]
    simp only [beq_self_eq_true,if_true,hc]
    exact h1
   ·cases q:y==n with
    |true=>exact h3 y a (by rw [List.lookup_cons,q])
    |false=>exact h3 y c (by rw [List.lookup_cons,q];exact e)
   ·rcases List.mem_cons.mp hy with q|q
    ·rw [Prod.mk.injEq] at q
     obtain ⟨rfl,_⟩:=q
     exact h3 _ a (by simp)
    ·exact h4 y q
  ·have hb:(k==NameKind.free)=false:=by simpa using hk
   refine hideG fun M kM=>?_
   obtain ⟨cl,h1,h2,h3,h4⟩:=ih acc (fun y hy=>hs y (List.mem_cons_of_mem _ hy)) ha
   refine kM ?_
   clear kM
   refine ⟨cl,?_,h2,h3,fun y hy=>?_⟩
   ·dsimp only
    simp only [hb,Bool.false_eq_true,if_false]
    exact h1
   ·rcases List.mem_cons.mp hy with q|q
    ·rw [Prod.mk.injEq] at q
     exact (hk q.2.symm).elim
    ·exact h4 y q
theorem closureFor_get {env:Env}{scope:Scope}(hs: ∀y∈scope.names,y.2= .free→(env.cells.lookup y.1).isSome=true):
  ∃cl,closureFor scope env=pure cl∧(∀y c,cl.lookup y=some c→env.cells.lookup y=some c)∧ ∀y,(y,NameKind.free)∈scope.names→(cl.lookup y).isSome=true:=by
 refine hideG fun M kM=>?_
 obtain ⟨cl,h1,h2,_,h4⟩:=closureFor_eq (env:=env) (names:=scope.names) [] hs (fun y c e=>by simp at e)
 refine kM ?_
 clear kM
 refine ⟨cl,?_,h2,h4⟩
 have:closureFor scope env=(forIn (m:=Sem) scope.names ([]:List (Str×Addr)) (fun (x:Str×NameKind) cs=>do
   if x.2== .free then
    let a←cellOf env x.1
    pure (ForInStep.yield ((x.1,a)::cs))
   else pure (ForInStep.yield cs)))>>=fun cs=>pure cs:=rfl
 rw [this,h1];rfl
noncomputable abbrev Cx.comp (C:Cx)(scope:Scope)(cl:List (Str×Addr))(Cc:Addr):Cx:={C with env:=compEnvC scope cl Cc C.env}
theorem codeAny_compAll {prog:Program}{w:World}{A:Around}{s:Shared}{R:Result→Shared→Prop}{elt target iter:Expr}{ifs:List Expr}{scope:Scope}{pos:Pos}{it acc:Value}{env:Env}(I:Nat→Shared→Prop)
  (turn: ∀n s,I n s→wpAny (model prog w) A (pyNext it) (fun r s₁=>match r with
   |none=>R (.ok .next) s₁
   |some v=>wpAny (model prog w) A (letOwnedTupleGo target it v) (fun _ s₁'=>wpAny (model prog w) A (PySem.assign target env v) (fun _ s₂=>
    wpAny (model prog w) A (forIn ifs true fun c r=>if r=true then do let ok←isTrue c env (eval c env);pure (ForInStep.yield ok) else pure (ForInStep.yield r)) (fun ok s₃=>
     if ok=true then wpAny (model prog w) A (eval elt env) (fun x s₄=>
      wpAny (model prog w) A (call (.builtin "list.append") [acc,x]) (fun _ s₅=> ∃m,m<n∧I m s₅) (notedBy (model prog w) A env fun e s'=>R (.error e) s') s₄) (notedBy (model prog w) A env fun e s'=>R (.error e) s') s₃
     else∃m,m<n∧I m s₃) (notedBy (model prog w) A env fun e s'=>R (.error e) s') s₂) (notedBy (model prog w) A env fun e s'=>R (.error e) s') s₁') (notedBy (model prog w) A env fun e s'=>R (.error e) s') s₁) (notedBy (model prog w) A env fun e s'=>R (.error e) s') s)
  (n:Nat) (h:I n s):codeAny (model prog w) A (.compLoop (.ListComp elt [⟨target,iter,ifs,0⟩] scope pos) 0 it acc env) R s:=by
 refine codeAny_loop rfl I (fun n s hI=>?_) n h
 show wpAny _ A ((compTurn (.ListComp elt [⟨target,iter,ifs,0⟩] scope pos) 0 it acc env).onRaise (fun x=>do noteFrame x env;theTreesLotGoes x)) _ _ s
 refine wpAny_noted ?_
 rw [compTurn_list]
 refine wpAny_bind (wpAny_standAt (wpAny_bind (wpAny_mono (turn n s hI) (fun r s₁ h₁=>?_) fun _ _ h'=>h')))
 cases r with
 |none=>exact wpAny_pure h₁
 |some v=>
  refine wpAny_bind (wpAny_mono h₁ (fun _ s₁' h₁'=>?_) fun _ _ h'=>h')
  refine wpAny_bind (wpAny_mono h₁' (fun _ s₂ h₂=>wpAny_bind (wpAny_mono h₂ (fun ok s₃ h₃=>?_) fun _ _ h'=>h')) fun _ _ h'=>h')
  cases ok with
  |false=>exact wpAny_pure ⟨rfl,h₃⟩
  |true=>
   exact wpAny_bind (wpAny_bind (wpAny_mono h₃ (fun x s₄ h₄=>wpAny_bind (wpAny_mono h₄ (fun _ s₅ h₅=>wpAny_pure (wpAny_pure ⟨rfl,h₅⟩)) fun _ _ h'=>h')) fun _ _ h'=>h'))
noncomputable def IsLocs (o:Obj)(m:Str→Option Value):Prop:= ∃es ep,o.data= .dict es ep∧StrKeys es∧ ∀y,nsFind es y=m y
theorem ns_of_locs {h:Heap}{a:Addr}{o:Obj}{m:Str→Option Value}(e:h.get? a=some o)(x:IsLocs o m):h.Ns a m:=let ⟨es,ep,r⟩:=x;⟨o,es,ep,e,r⟩
theorem locs_of_ns {h:Heap}{a:Addr}{m:Str→Option Value}(x:h.Ns a m): ∃o,h.get? a=some o∧IsLocs o m:=let ⟨o,es,ep,e,r⟩:=x;⟨o,e,es,ep,r⟩
noncomputable def OnlyCells (C:Cx)(lv:List (Option AVal)):Prop:= ∀(i:Nat) (y:Str) (k:NameKind) (v:AVal),C.env.scope.names[i]?=some (y,k)→lv[i]?=some (some v)→C.env.kindOf y=some .cell
section
variable {G:Gl}{C:Cx}{lv:List (Option AVal)}
theorem Sit.updC {K J:Kept}{m:Str→Option Value}{I:Addr}{o:Obj}(S:Sit G C lv K J m)(oc:OnlyCells C lv)(h0:C.h₀.get? I=none)(hI: ∀o',J I o'→ ∀v,o'.data≠ .cell v):Sit G C lv K (J.upd I o) m:=
 {S with
  keep:=fun a o' e=>(S.keep a o' e).imp id fun q=>Kept.upd_other q fun z=>by rw [z,h0] at e;cases e
  lv:=fun i y k v h1 h2=>by
   refine hideG fun M kM=>?_
   obtain ⟨cv,⟨d,w⟩,r⟩:=S.lv i y k v h1 h2
   refine kM ?_
   clear kM
   refine ⟨cv,⟨d,?_⟩,r⟩
   have hk:=oc i y k v h1 h2
   rcases w with ⟨a,_⟩|⟨a,c,o',b,hj,d'⟩
   ·rw [hk] at a;cases a
   ·exact .inr ⟨a,c,o',b,Kept.upd_other hj fun q=>hI o' (q▸hj) _ d',d'⟩
  cj:=fun y c h1 h2=>let ⟨o',v,a,b⟩:=S.cj y c h1 h2;⟨o',v,Kept.upd_other a fun z=>hI o' (z▸a) _ b,b⟩
  cs:=fun c h1=>let ⟨o',v,a,b⟩:=S.cs c h1;⟨o',v,Kept.upd_other a fun z=>hI o' (z▸a) _ b,b⟩}
theorem Sit.setVar {K J:Kept}{m:Str→Option Value}(S:Sit G C lv K J m){i:Nat}{y:Str}{k:NameKind}{v:AVal}{cv:Value}(hn:C.env.scope.names[i]?=some (y,k))(hv:VarIs C.env C.L m J y cv)(r:VRel G.w.params K v cv):Sit G C (lv.set i (some v)) K J m:=
 {S with lv:=(by
  intro j z k' v' hz hv'
  rcases lv_set hv' with ⟨rfl,rfl⟩|⟨hj,hv'⟩
  ·rw [hn] at hz
   cases hz
   exact ⟨cv,hv,r⟩
  ·exact S.lv j z k' v' hz hv')}
theorem Sit.weaken {lv':List (Option AVal)}{K J:Kept}{m:Str→Option Value}(S:Sit G C lv K J m)(h: ∀(i:Nat) (v:AVal),lv'[i]?=some (some v)→lv[i]?=some (some v)):Sit G C lv' K J m:=
 {S with lv:=fun i y k v h1 h2=>S.lv i y k v h1 (h i v h2)}
end
noncomputable def CTgt (G:Gl)(C:Cx)(lv:List (Option AVal))(target:Expr)(v:AVal)(lv₁:List (Option AVal)):Prop:=
 ∀K J m own s cv oc mc,Sit G C lv K J m→Inv K J own C.L m s.heap→VRel G.w.params K v cv→J C.env.locals oc→IsLocs oc mc→ ∀(Q:Unit→Shared→Prop) (E:Value→Shared→Prop),
  (∀h' tk oc' mc',Inv K (J.upd C.env.locals oc') own C.L m h'→Sit G C lv₁ K (J.upd C.env.locals oc') m→IsLocs oc' mc'→Q () {s with heap:=h',toks:=tk})→
  wpAny (model G.prog G.w) C.A (PySem.assign target C.env cv) Q E s
section
variable {G:Gl}{C:Cx}{lv:List (Option AVal)}
theorem cstore {K J:Kept}{m:Str→Option Value}{own:Led}{s:Shared}{cv:Value}{oc:Obj}{mc:Str→Option Value}{y:Str}(S:Sit G C lv K J m)(oC:OnlyCells C lv)(I:Inv K J own C.L m s.heap)(hj:J C.env.locals oc)(hl:IsLocs oc mc)
  (h0:C.h₀.get? C.env.locals=none) (hk:C.env.kindOf y=some .local) {Q:Unit→Shared→Prop}{E:Value→Shared→Prop}
  (k: ∀h' tk oc',Inv K (J.upd C.env.locals oc') own C.L m h'→Sit G C lv K (J.upd C.env.locals oc') m→IsLocs oc' (fun z=>if z=y then some cv else mc z)→Q () {s with heap:=h',toks:=tk}):
  wpAny (model G.prog G.w) C.A (storeName C.env y cv) Q E s:=by
 refine wpAny_storeName_local hk (ns_of_locs (I.j _ _ hj) hl) (fun h' hn hs=>?_) (by rw [S.kind];rfl)
 obtain ⟨oc',e1,e2⟩:=locs_of_ns hn
 refine k h' _ oc' (I.updJ (fun b ob n e=>(hs.2 b n).trans e) hj e1) (S.updC oC h0 fun o' z v q=>?_) e2
 have:=I.j _ _ z
 rw [I.j _ _ hj] at this
 cases this
 refine hideG fun M kM=>?_
 obtain ⟨es,ep,hd,_⟩:=hl
 refine kM ?_
 clear kM
 rw [hd] at q;cases q
theorem CTgt.name {i:Nat}{y:Str}{p:Pos}{v:AVal}{k:NameKind}(oC:OnlyCells C lv)(h0:C.h₀.get? C.env.locals=none)(hn:C.env.scope.names[i]?=some (y,k))(hk:C.env.kindOf y=some .local)(hd:(y==("__debug__":Str))=false):
  CTgt G C lv (.Name y p) v (lv.set i (some v)):=by
 intro K J m own s cv oc mc S I r hj hl Q E hQ
 refine wpAny_assign_Name (cstore S oC I hj hl h0 hk fun h' tk oc' I' S' hl'=>hQ h' tk oc' _ I' (S'.setVar hn ⟨hd,.inl ⟨hk,.inr ?_⟩⟩ r) hl')
 refine hideG fun M kM=>?_
 obtain ⟨es,ep,a,b,c⟩:=hl'
 refine kM ?_
 clear kM
 exact ⟨oc',es,ep,Kept.upd_self,a,b,by rw [c];simp⟩
theorem CTgt.pair {i j:Nat}{y z:Str}{p q tp:Pos}{x1:Nat}{v w:AVal}{k k':NameKind}(oC:OnlyCells C lv)(h0:C.h₀.get? C.env.locals=none)(hn:C.env.scope.names[i]?=some (y,k))(hk:C.env.kindOf y=some .local)(hd:(y==("__debug__":Str))=false)
  (hn':C.env.scope.names[j]?=some (z,k')) (hk':C.env.kindOf z=some .local) (hd':(z==("__debug__":Str))=false) (hyz:y≠z):
  CTgt G C lv (.Tuple [.Name y p,.Name z q] x1 tp) (.tup [v,w]) ((lv.set i (some v)).set j (some w)):=by
 intro K J m own s cv oc mc S I r hj hl Q E hQ
 refine r.tupE fun a cvs n hkk hv=>?_
 revert hkk
 refine hv.twoE fun c1 c2 r1 r2 hkk=>?_
 refine wpAny_assign_Tuple S.hh (seq_tuple (I.k _ _ hkk)) rfl rfl fun h' he=>?_
 have g:Grow C.L m s.heap h':=by
  have n0:=size_none s.heap
  refine ⟨fun b o _ e=>he b o (fun q=>by rw [q,n0] at e;cases e) e,?_⟩
  refine I.ns.at' fun o e=>he _ o (fun q=>by rw [q,n0] at e;cases e) e
 have I₁:=I.grow g
 show wpAny _ _ (assignInOrder [PySem.assign (.Name y p) C.env,PySem.assign (.Name z q) C.env] [c1,c2]) Q E _
 unfold assignInOrder
 refine wpAny_bind (wpAny_holding (wpAny_assign_Name (cstore (s:={s with heap:=h'}) S oC I₁ hj hl h0 hk fun h₂ tk₂ oc₂ I₂ S₂ hl₂=>?_)))
 unfold assignInOrder
 refine wpAny_bind (wpAny_holding (wpAny_assign_Name (cstore (s:={s with heap:=h₂,toks:=tk₂}) S₂ oC I₂ Kept.upd_self hl₂ h0 hk' fun h₃ tk₃ oc₃ I₃ S₃ hl₃=>?_)))
 have hu: ∀o,((J.upd C.env.locals oc₂).upd C.env.locals o)=J.upd C.env.locals o:=fun o=>by
  funext a o'
  unfold Kept.upd
  apply propext
  constructor
  ·rintro (⟨n,⟨_,e⟩|⟨e,_⟩⟩|e)
   ·exact .inl ⟨n,e⟩
   ·exact (n e).elim
   ·exact .inr e
  ·rintro (⟨n,e⟩|e)
   ·exact .inl ⟨n,.inl ⟨n,e⟩⟩
   ·exact .inr e
 rw [hu] at I₃ S₃
 unfold assignInOrder
 refine wpAny_pure (hQ h₃ tk₃ oc₃ _ I₃ ?_ hl₃)
 refine hideG fun M kM=>?_
 obtain ⟨es,ep,a,b,c⟩:=hl₃
 refine kM ?_
 clear kM
 exact (S₃.setVar hn ⟨hd,.inl ⟨hk,.inr ⟨oc₃,es,ep,Kept.upd_self,a,b,by rw [c];simp [hyz]⟩⟩⟩ r1).setVar hn' ⟨hd',.inl ⟨hk',.inr ⟨oc₃,es,ep,Kept.upd_self,a,b,by rw [c];simp⟩⟩⟩ r2
end
noncomputable def capLv (lv:List (Option AVal))(caps:List (Option Nat)):List (Option AVal):=caps.map fun o=>match o with
 |some j=>(match lv[j]? with|some v=>v|none=>none)
 |none=>none
noncomputable def compChk (env:Env)(scope:Scope)(caps:List (Option Nat)):Bool:=
 (scope.names.all fun y=>y.2 != .cell&&(y.2 != .local||scope.names.lookup y.1==some .local)&&(y.2 != .free||(env.kindOf y.1==some .cell&&(env.cells.lookup y.1).isSome)))&&
 decide ((scope.names.map (·.1)).Nodup)&&
 (scope.kind== .function)&&(env.scope.kind== .function)&&
 (List.range caps.length).all fun i=>match caps[i]? with
  |some (some j)=>(match scope.names[i]?,env.scope.names[j]? with
   |some (y,k),some (z,k')=>y==z&&k== .free&&k'== .cell
   |_,_=>false)
  |_=>true
structure CompOk (env:Env)(scope:Scope)(caps:List (Option Nat)):Prop where
 cell: ∀y∈scope.names,y.2≠ .cell
 names: ∀y∈scope.names,y.2= .local→scope.names.lookup y.1=some .local
 free: ∀y∈scope.names,y.2= .free→env.kindOf y.1=some .cell∧(env.cells.lookup y.1).isSome=true
 nd:(scope.names.map (·.1)).Nodup
 kind:scope.kind= .function
 ekind:env.scope.kind= .function
 cap: ∀(i j:Nat),caps[i]?=some (some j)→ ∃y:Str,scope.names[i]?=some (y,NameKind.free)∧env.scope.names[j]?=some (y,NameKind.cell)
theorem CompOk.of {env:Env}{scope:Scope}{caps:List (Option Nat)}(h:compChk env scope caps=true):CompOk env scope caps:=by
 unfold compChk at h
 simp only [Bool.and_eq_true,List.all_eq_true,decide_eq_true_eq,Bool.or_eq_true,bne_iff_ne,beq_iff_eq,ne_eq,List.mem_range] at h
 refine hideG fun M kM=>?_
 obtain ⟨⟨⟨⟨h1,h2⟩,h3⟩,h4⟩,h5⟩:=h
 refine kM ?_
 clear kM
 refine ⟨fun y hy=>(h1 y hy).1.1,fun y hy e=>(h1 y hy).1.2.resolve_left fun q=>q e,fun y hy e=>(h1 y hy).2.resolve_left fun q=>q e,h2,h3,h4,fun i j e=>?_⟩
 have hi:i<caps.length:=(List.getElem?_eq_some_iff.mp e).1
 have:=h5 i hi
 rw [e] at this
 dsimp only at this
 split at this
 ·rename_i y k z k' e1 e2
  simp only [Bool.and_eq_true,beq_iff_eq] at this
  obtain ⟨⟨rfl,rfl⟩,rfl⟩:=this
  exact ⟨y,e1,e2⟩
 ·cases this
theorem names_lookup : ∀{names:List (Str×NameKind)}(_:(names.map (·.1)).Nodup) {i:Nat}{y:Str}{k:NameKind},names[i]?=some (y,k)→names.lookup y=some k
 |names,hn,i,y,k,h=>lookup_of_nodup (List.mem_of_getElem? h) hn
theorem relabel_names {scope:Scope}{env:Env}{i:Nat}:(relabel scope env).names[i]?=(scope.names[i]?).map fun y=>if (y.2== .free&&env.scope.kind== .function&&env.kindOf y.1==some .cell)=true then (y.1,.cell) else y:=by
 unfold relabel
 rw [List.getElem?_map]
theorem relabel_fst {scope:Scope}{env:Env}:(relabel scope env).names.map (·.1)=scope.names.map (·.1):=by
 unfold relabel
 refine rwG (List.map_map ..) ?_
 refine List.map_congr_left fun y _=>?_
 obtain ⟨n,k⟩:=y
 show (if _ then (n,NameKind.cell) else (n,k)).1=n
 split<;>rfl
section
variable {G:Gl}{C:Cx}{lv:List (Option AVal)}{scope:Scope}{caps:List (Option Nat)}{cl:List (Str×Addr)}
theorem capLv_get {i:Nat}{v:AVal}(h:(capLv lv caps)[i]?=some (some v)): ∃j,caps[i]?=some (some j)∧lv[j]?=some (some v):=by
 unfold capLv at h
 rw [List.getElem?_map] at h
 cases q:caps[i]? with
 |none=>rw [q] at h;cases h
 |some o=>
  rw [q] at h
  cases o with
  |none=>simp at h
  |some j=>
   refine ⟨j,rfl,?_⟩
   simp only [Option.map_some,Option.some.injEq] at h
   split at h
   ·rename_i w e
    rw [e,h]
   ·cases h
theorem CompOk.kindOf (ok:CompOk C.env scope caps){i j:Nat}{Cc:Addr}(h:caps[i]?=some (some j)): ∃y:Str,(C.comp scope cl Cc).env.scope.names[i]?=some (y,NameKind.cell)∧(C.comp scope cl Cc).env.kindOf y=some .cell∧C.env.scope.names[j]?=some (y,.cell)∧(y,NameKind.free)∈scope.names:=by
 obtain ⟨y,h1,h2⟩:=ok.cap i j h
 have hm:=List.mem_of_getElem? h1
 have hf:=(ok.free _ hm rfl).1
 have e:(relabel scope C.env).names[i]?=some (y,.cell):=by
  rw [relabel_names,h1]
  simp [ok.ekind,hf]
 exact ⟨y,e,names_lookup (names:=(relabel scope C.env).names) (by rw [relabel_fst];exact ok.nd) e,h2,hm⟩
theorem CompOk.onlyCells (ok:CompOk C.env scope caps)(Cc:Addr):OnlyCells (C.comp scope cl Cc) (capLv lv caps):=by
 intro i y k v h1 h2
 refine hideG fun M kM=>?_
 obtain ⟨j,e1,e2⟩:=capLv_get h2
 obtain ⟨z,a1,a2,_⟩:=ok.kindOf (cl:=cl) (Cc:=Cc) e1
 refine kM ?_
 clear kM
 rw [h1] at a1
 cases a1
 exact a2
theorem Sit.comp {K J Jt:Kept}{m:Str→Option Value}(S:Sit G C lv K J m)(ok:CompOk C.env scope caps)(Cc:Addr)(hCL:Cc≠C.L)(hcl1: ∀y c,cl.lookup y=some c→C.env.cells.lookup y=some c)(hcl2: ∀y,(y,NameKind.free)∈scope.names→(cl.lookup y).isSome=true)
  (hJ: ∀a o,J a o→Jt a o):Sit G (C.comp scope cl Cc) (capLv lv caps) K Jt m:=
 {below:=S.below
  hA:=S.hA
  hf:=S.hf
  hef:=S.hef
  hke:=S.hke
  kind:=ok.kind
  hg:=S.hg
  hb:=S.hb
  hh:=S.hh
  above:=S.above
  keep:=fun a o e=>(S.keep a o e).imp id (hJ a o)
  fk:=S.fk
  glo:=S.glo
  lv:=(by
   intro i y k v h1 h2
   refine hideG fun M kM=>?_
   obtain ⟨j,e1,e2⟩:=capLv_get h2
   obtain ⟨z,a1,a2,a3,a4⟩:=ok.kindOf (cl:=cl) (Cc:=Cc) e1
   refine kM ?_
   clear kM
   rw [h1] at a1
   cases a1
   refine hideG fun M kM=>?_
   obtain ⟨cv,⟨d,w⟩,r⟩:=S.lv j y .cell v a3 e2
   refine kM ?_
   clear kM
   have hk:C.env.kindOf y=some .cell:=names_lookup S.nd a3
   rcases w with ⟨a,_⟩|⟨a,c,o',b,hj,d'⟩
   ·rw [hk] at a;cases a
   ·obtain ⟨c',hc'⟩:=Option.isSome_iff_exists.mp (hcl2 y a4)
    have:=hcl1 y c' hc'
    rw [b] at this
    cases this
    exact ⟨cv,⟨d,.inr ⟨a2,c,o',hc',hJ _ _ hj,d'⟩⟩,r⟩)
  nd:=(by show ((relabel scope C.env).names.map (·.1)).Nodup;rw [relabel_fst];exact ok.nd)
  cnd:=fun x y c h1 h2=>S.cnd x y c (hcl1 x c h1) (hcl1 y c h2)
  cc:=fun x c h1 h2 h3=>(hCL h3).elim
  ch:=S.ch
  cj:=(by
   intro y c h1 h2
   have h1':(relabel scope C.env).names.lookup y=some .cell:=h1
   obtain ⟨i,hi⟩:=List.getElem?_of_mem (mem_of_lookup h1')
   rw [relabel_names] at hi
   cases q:scope.names[i]? with
   |none=>rw [q] at hi;cases hi
   |some z=>
    rw [q] at hi
    have hz:=List.mem_of_getElem? q
    simp only [Option.map_some,Option.some.injEq] at hi
    split at hi
    ·rename_i hc
     simp only [Bool.and_eq_true,beq_iff_eq] at hc
     cases hi
     refine hideG fun M kM=>?_
     obtain ⟨o,v,a,b⟩:=S.cj z.1 c hc.2 (hcl1 _ _ h2)
     refine kM ?_
     clear kM
     exact ⟨o,v,hJ _ _ a,b⟩
    ·subst hi
     exact (ok.cell _ hz rfl).elim)
  cs:=fun c hc=>let ⟨o,v,a,b⟩:=S.cs c hc;⟨o,v,hJ _ _ a,b⟩
  guards:=S.guards
  depth:=S.depth
  units:=S.units}
noncomputable abbrev Tsts (G:Gl)(C:Cx)(lv:List (Option AVal))(σ:Own)(ifs:List Expr)(Q:Bool→Own→Prop)(x:Prop):Prop:=
 Run isIt G C lv σ (forIn ifs true fun c r=>if r=true then do let ok←isTrue c C.env (eval c C.env);pure (ForInStep.yield ok) else pure (ForInStep.yield r)) Q x
theorem Tsts.nil {σ:Own}{Q:Bool→Own→Prop}{x:Prop}(h:Q true σ):Tsts G C lv σ [] Q x:=fun K J m own s S I O=>wpAny_tests_nil (.same I O rfl h)
theorem Tsts.one {σ:Own}{c:Expr}{Q:Bool→Own→Prop}{x:Prop}(h:Tst G C lv σ c Q x):Tsts G C lv σ [c] Q x:=fun K J m own s S I O=>wpAny_tests_one (h K J m own s S I O)
theorem VRels.snoc {P:Params}{K:Kept}{vs:List AVal}{cvs:List Value}{v:AVal}{cv:Value}(h:VRels P K vs cvs)(r:VRel P K v cv):VRels P K (vs++ [v]) (cvs++ [cv]):=h.append (.cons r .nil)
theorem Inv.added {K J J':Kept}{own:Led}{L:Addr}{m:Str→Option Value}{h:Heap}{D:Addr}{o:Obj}(I:Inv K J own L m h)(jD:J D o)(Jx: ∀a o,J' a o→J a o)(n: ∀o,¬J' D o):Inv K J' (own++ [(D,o)]) L m h:=by
 have oD: ∀p∈own++ [(D,o)],p∈own∨p=(D,o):=fun p hp=>(List.mem_append.mp hp).imp id List.mem_singleton.mp
 refine ⟨I.k,fun a o e=>I.j _ _ (Jx _ _ e),fun p hp=>?_,?_,fun p hp o e=>?_,fun p hp o e=>?_,fun a o o' e z=>I.kj a o o' e (Jx _ _ z),I.ns,I.kL,fun o e=>I.jL o (Jx _ _ e),fun p hp=>?_⟩
 ·rcases oD p hp with q|rfl
  ·exact I.ow p q
  ·exact I.j _ _ jD
 ·refine rwG (List.map_append ..) (List.nodup_append.mpr ⟨I.nodup,List.pairwise_singleton _ _,fun b hb c hc q=>?_⟩)
  obtain ⟨p,hp,rfl⟩:=List.mem_map.mp hb
  have e:p.1=D:=q.trans (List.mem_singleton.mp hc)
  exact I.oj p hp _ (e▸jD)
 ·rcases oD p hp with q|rfl
  ·exact I.ok p q o e
  ·exact I.kj _ _ _ e jD
 ·rcases oD p hp with q|rfl
  ·exact I.oj p q o (Jx _ _ e)
  ·exact n _ e
 ·rcases oD p hp with q|rfl
  ·exact I.oL p q
  ·rintro rfl
   exact I.jL _ jD
inductive CompI (G:Gl)(C:Cx)(lv:List (Option AVal))(m:Str→Option Value)(K J:Kept)(s:Shared)(len:Nat)(Φ:Nat→List AVal→Own→Prop)(It D Cc:Addr)(St:Nat→Heap→Prop)(k:Nat)(s':Shared):Prop where
 |mk (i:Nat) (K' Jt:Kept) (own':Led) (σ':Own) (out:List AVal) (h':Heap) (tk':Nat) (o:Obj) (cvs:List Value) (nn:Nat) (oc:Obj) (mc:Str→Option Value) (e1:k=len+1 - i) (e2:i≤len) (e3:out.length≤i) (e4:s'={s with heap:=h',toks:=tk'}) (hk: ∀a o,K a o→K' a o) (hj: ∀a o,J a o→Jt a o)
  (S:Sit G C lv K' Jt m) (I:Inv K' Jt own' C.L m h') (O:Owns G.w.params K' σ' own') (hΦ:Φ i out σ') (st:St i h') (jI:Jt It o) (f:ObF o) (jD:Jt D (seqObj "list" cvs nn)) (r:VRels G.w.params K' out cvs) (jC:Jt Cc oc) (hl:IsLocs oc mc)
theorem comp_coreO {target iter elt:Expr}{ifs:List Expr}{pos:Pos}(ok:CompOk C.env scope caps){vs:List AVal}{Φ:Nat→List AVal→Own→Prop}(hsz:vs.length≤sizeLine)
  (hcl1: ∀y c,cl.lookup y=some c→C.env.cells.lookup y=some c) (hcl2: ∀y,(y,NameKind.free)∈scope.names→(cl.lookup y).isSome=true)
  (turn: ∀Cc (i:Nat) v out σ,vs[i]?=some v→Φ i out σ→C.h₀.get? Cc=none→OnlyCells (C.comp scope cl Cc) (capLv lv caps)→ ∃lv₁,(∀(j:Nat) w,(capLv lv caps)[j]?=some (some w)→lv₁[j]?=some (some w))∧CTgt G (C.comp scope cl Cc) (capLv lv caps) target v lv₁∧
   Tsts G (C.comp scope cl Cc) lv₁ σ ifs (fun b σ'=>if b then Ev G (C.comp scope cl Cc) lv₁ σ' elt (fun w σ''=>Φ (i+1) (out++ [w]) σ'') False else Φ (i+1) out σ') False)
  {K₁ J:Kept}{m:Str→Option Value}{own₁:Led}{σ₁:Own}{s:Shared}{h₁:Heap}{It:Addr}{St:Nat→Heap→Prop}(S:Sit G C lv K₁ J m) (I₁:Inv K₁ J own₁ C.L m h₁) (O:Owns G.w.params K₁ σ₁ own₁) (g:Grow C.L m h₁ s.heap) (hIt:h₁.get? It=none) (W:Itr G C.A K₁ vs It St) (st:St 0 s.heap)
  (hΦ:Φ 0 [] σ₁) {RR:Value→Addr→Result→Shared→Prop}{E:Value→Shared→Prop}
  (hRR: ∀D Cc h tk K' own' out σ' oC mC cvs nn,(∀a o,K₁ a o→K' a o)→Inv K' (J.upd Cc oC) (own'++ [(D,seqObj "list" cvs nn)]) C.L m h→(∀o,¬J Cc o)→C.h₀.get? Cc=none→IsLocs oC mC→Owns G.w.params K' σ' own'→VRels G.w.params K' out cvs→Φ vs.length out σ'→RR (.ref D) Cc (.ok .next) {s with heap:=h,toks:=tk}):
  wpAny (model G.prog G.w) C.A (newList []) (fun acc s₃=>wpAny (model G.prog G.w) C.A (newFunctionEnv scope C.env.globals cl [] C.env.qual none .none (some C.env)) (fun cenv s₄=>
   codeAny (model G.prog G.w) C.A (.compStart (.ListComp elt [⟨target,iter,ifs,0⟩] scope pos) 0 (.ref It) acc {cenv with scope:=relabel scope C.env}) (RR acc cenv.locals) s₄) E s₃) E s:=by
 obtain ⟨fp,P,W,hfp,hP,hob⟩:=W
 refine (hob 0 _ st).elim fun o₀ hi=>?_
 have nn₁:=not_of_none I₁ hIt
 have nJ:=nn₁.1
 have nL:=nn₁.2.2
 have hi1:=hi.1
 have I₂:=I₁.addJ g hIt hi1
 have S₂:Sit G C lv K₁ (J.upd It o₀) m:=S.upd (h0_none S I₁ hIt) fun o' z=>(nJ o' z).elim
 refine wpAny_newObj_type (wpAny_newFunctionEnv (fun y hy=>ok.cell y hy) (by intro y hy;simp at hy) (fun h₃ hns hsb=>?_) ok.kind)
 dsimp only at hns hsb⊢
 have hD0:=size_none s.heap
 have hD1:(s.heap.push {cls:= .type "list",dict:=none,data:= .seq ([]:List Value).toArray}).get? s.heap.objs.size=some (seqObj "list" [] 0):=Heap.get?_push_size _ rfl
 have hDs:(s.heap.push {cls:= .type "list",dict:=none,data:= .seq ([]:List Value).toArray}).objs.size=s.heap.objs.size+1:=Heap.size_push _ _
 have g2:=grow_push (L:=C.L) (m:=m) {cls:= .type "list",dict:=none,data:= .seq ([]:List Value).toArray} I₂.ns
 generalize s.heap.push {cls:= .type "list",dict:=none,data:= .seq ([]:List Value).toArray}=H2 at hns hsb hD1 hDs g2⊢
 refine hideG fun M kM=>?_
 obtain ⟨mJ,mK,mL⟩:=not_of_none I₂ hD0
 have I₃:=I₂.addJ g2 hD0 hD1
 have h0D:=h0_none S₂ I₂ hD0
 have S₃:Sit G C lv K₁ ((J.upd It o₀).upd s.heap.objs.size (seqObj "list" [] 0)) m:=S₂.upd h0D fun o' z=>(mJ o' z).elim
 have hC0:=size_none H2
 obtain ⟨pJ,pK,pL⟩:=not_of_none I₃ hC0
 have h0C:=h0_none S₃ I₃ hC0
 have g3:Grow C.L m H2 h₃:=by
  have kp: ∀b o,H2.get? b=some o→h₃.get? b=some o:=fun b o e=>by
   have hb:b≠H2.objs.size:=fun q=>by rw [q,hC0] at e;cases e
   exact hsb.extBut b o hb (Heap.get?_push_of_some _ e)
  exact ⟨fun b o _ e=>kp b o e,I₃.ns.at' fun o e=>kp _ o e⟩
 obtain ⟨oC,hoC,hlC⟩:=locs_of_ns hns
 refine kM ?_
 clear kM
 have I₄:=I₃.addJ g3 hC0 hoC
 have hItD:It≠s.heap.objs.size:=fun q=>by rw [←q,hi1] at hD0;cases hD0
 have hItC:It≠H2.objs.size:=fun q=>pJ o₀ (q▸Kept.upd_other Kept.upd_self hItD)
 have hDC:s.heap.objs.size≠H2.objs.size:=by rw [hDs];exact Nat.ne_of_lt (Nat.lt_succ_self _)
 generalize hDd:s.heap.objs.size=D at*
 generalize hCd:H2.objs.size=Cc at*
 have Jsub: ∀a o,J a o→((((J.upd It o₀).upd D (seqObj "list" [] 0)).upd Cc oC)) a o:=fun a o e=>Kept.upd_other (Kept.upd_other (Kept.upd_other e fun q=>nJ o (q▸e)) fun q=>mJ o (q▸Kept.upd_other e fun q=>nJ o (q▸e))) fun q=>pJ o (q▸(Kept.upd_other (Kept.upd_other e fun q=>nJ o (q▸e)) fun q=>mJ o (q▸Kept.upd_other e fun q=>nJ o (q▸e))))
 have nJD: ∀o,¬J D o:=fun o e=>mJ o (Kept.upd_other e fun q=>nJ o (q▸e))
 have nJC: ∀o,¬J Cc o:=fun o e=>pJ o (Kept.upd_other (Kept.upd_other e fun q=>nJ o (q▸e)) fun q=>nJD o (q▸e))
 have S₄:Sit G (C.comp scope cl Cc) (capLv lv caps) K₁ (((J.upd It o₀).upd D (seqObj "list" [] 0)).upd Cc oC) m:=S.comp ok Cc pL hcl1 hcl2 Jsub
 have h0I:=h0_none S I₁ hIt
 have onC:=ok.onlyCells (lv:=lv) (cl:=cl) Cc
 have st₄:St 0 h₃:=W.frame _ _ _ st fun b hb o e=>by
  have e2:H2.get? b=some o:=by
   rcases hfp b hb with rfl|⟨ob,hk⟩
   ·rw [hi1] at e;cases e
    exact g2.keep _ _ nL hi1
   ·have:=I₂.k _ _ hk
    rw [e] at this;cases this
    exact I₃.k _ _ hk
  by_cases q:b=C.L
  ·rcases hfp b hb with r|⟨ob,hk⟩
   ·exact (nL (r▸q)).elim
   ·exact (I₁.kL ob (q▸hk)).elim
  ·exact g3.keep _ _ q e2
 have loop: ∀s₃:Shared,s₃={s with heap:=h₃,toks:=s.toks+([]:List (Str×Value)).length}→
   codeAny (model G.prog G.w) C.A (.compLoop (.ListComp elt [⟨target,iter,ifs,0⟩] scope pos) 0 (.ref It) (.ref D) (compEnvC scope cl Cc C.env)) (RR (.ref D) Cc) s₃:=by
  rintro s₃ rfl
  refine codeAny_compAll (CompI G (C.comp scope cl Cc) (capLv lv caps) m K₁ J s vs.length Φ It D Cc St) ?_ (vs.length+1) ?_
  ·rintro k s' ⟨i,K',Jt,own',σ',out,h',tk',o,cvs,nn,oc,mc,rfl,hle,hlo,rfl,hk',hJ,S',I',O',hΦ',st',jI,ho,jD,hcv,jC,hlc⟩
   by_cases hi:i<vs.length
   ·refine W.item i _ _ _ hi st' fun cv h5 tk5 hp st5 hkeep=>?_
    refine (hP _ _ hp).elim fun av ha=>?_
    refine (hob _ _ st5).elim fun o5 he=>?_
    have I5:=I'.updJ (one_other hkeep) jI he.1
    have S5:=S'.upd (o:=o5) h0I (plain_at I' jI ho)
    have jD5:(Jt.upd It o5) D (seqObj "list" cvs nn):=Kept.upd_other jD (Ne.symm hItD)
    have jC5:(Jt.upd It o5) Cc oc:=Kept.upd_other jC (Ne.symm hItC)
    refine letGo_plain he.1 he.2 ?_
    refine (turn Cc i av out σ' ha.1 hΦ' h0C onC).elim fun lv₁ ht=>?_
    refine ht.2.1 K' _ m own' {s with heap:=h5,toks:=tk5} cv oc mc S5 I5 (ha.2.mono hk') jC5 hlc _ _ fun h6 tk6 oc6 mc6 I6 S6 hl6=>?_
    refine wpAny_mono (ht.2.2 K' _ m own' {s with heap:=h6,toks:=tk6} S6 I6 O') (fun b s7 p=>?_) fun ev s7 f=>f.1.elim
    obtain ⟨K7,own7,b',σ7,h7,tk7,rfl,hk7,I7,O7,rfl,q⟩:=p
    have S7:=S6.mono hk7
    have jD6:((Jt.upd It o5).upd Cc oc6) D (seqObj "list" cvs nn):=Kept.upd_other jD5 hDC
    have jC6:((Jt.upd It o5).upd Cc oc6) Cc oc6:=Kept.upd_self
    have jI6:((Jt.upd It o5).upd Cc oc6) It o5:=Kept.upd_other Kept.upd_self hItC
    have J6: ∀a o,J a o→((Jt.upd It o5).upd Cc oc6) a o:=fun a o e=>Kept.upd_other (Kept.upd_other (hJ _ _ e) fun q=>nJ _ (q▸e)) fun q=>nJC _ (q▸e)
    cases b with
    |false=>
     rw [if_neg (by decide)] at q⊢
     exact ⟨vs.length+1 - (i+1),subL hi,i+1,K7,_,own7,σ7,out,h7,tk7,o5,cvs,nn,oc6,mc6,rfl,hi,Nat.le_succ_of_le hlo,rfl,fun a o z=>hk7 _ _ (hk' _ _ z),J6,S7.weaken ht.1,I7,O7,q,walks_frame W hfp st5 I5 hk' he.1 I7 (fun a o z=>hk7 _ _ (hk' _ _ z)) jI6,jI6,he.2,jD6,hcv.mono hk7,jC6,hl6⟩
    |true=>
     rw [if_pos rfl] at q⊢
     refine wpAny_mono (q K7 _ m own7 {s with heap:=h7,toks:=tk7} S7 I7 O7) (fun w s8 p=>?_) fun ev s8 f=>f.1.elim
     obtain ⟨K8,own8,w',σ8,h8,tk8,rfl,hk8,I8,O8,r8,q8⟩:=p
     have hlen:=hcv.length
     refine wpAny_list_append_plain (items:=cvs.toArray) (hsz:=by simp only [List.size_toArray];lia) ⟨nn,I8.j _ _ jD6⟩ fun h9 hp9 hs9=>?_
     obtain ⟨n9,e9⟩:=hp9
     have e9':h9.get? D=some (seqObj "list" (cvs++ [w]) n9):=by rw [e9];simp
     have I9:=I8.updJ (fun b ob n e=>(hs9.2 b n).trans e) jD6 e9'
     have S9:Sit G (C.comp scope cl Cc) (capLv lv caps) K8 (((Jt.upd It o5).upd Cc oc6).upd D (seqObj "list" (cvs++ [w]) n9)) m:=((S7.mono hk8).weaken ht.1).updC onC h0D fun o' z v q=>by
      have e1:=I8.j _ _ z
      rw [I8.j _ _ jD6] at e1
      cases e1
      cases q
     have J9: ∀a o,J a o→(((Jt.upd It o5).upd Cc oc6).upd D (seqObj "list" (cvs++ [w]) n9)) a o:=fun a o e=>Kept.upd_other (J6 _ _ e) fun q=>nJD _ (q▸e)
     exact ⟨vs.length+1 - (i+1),subL hi,i+1,K8,_,own8,σ8,out++ [w'],h9,tk8,o5,cvs++ [w],n9,oc6,mc6,rfl,hi,by simp;lia,rfl,fun a o z=>hk8 _ _ (hk7 _ _ (hk' _ _ z)),J9,S9,I9,O8,q8,
      walks_frame W hfp st5 I5 hk' he.1 I9 (fun a o z=>hk8 _ _ (hk7 _ _ (hk' _ _ z))) (Kept.upd_other jI6 hItD),Kept.upd_other jI6 hItD,he.2,Kept.upd_self,(hcv.mono fun a o z=>hk8 _ _ (hk7 _ _ z)).snoc r8,Kept.upd_other jC6 (Ne.symm hDC),hl6⟩
   ·have:i=vs.length:=Nat.le_antisymm (by assumption) (Nat.not_lt.mp hi)
    subst this
    refine W.done _ _ _ st' fun h5 tk5 hkeep=>?_
    have I5:=I'.delJ (one_other hkeep) jI
    have jD5:(Jt.del It) D (seqObj "list" cvs nn):=⟨Ne.symm hItD,jD⟩
    have Jx: ∀a o,(J.upd Cc oc) a o→(Jt.del It) a o:=by
     rintro a o (⟨_,e⟩|⟨rfl,rfl⟩)
     ·exact ⟨fun q=>nJ _ (q▸e),hJ _ _ e⟩
     ·exact ⟨Ne.symm hItC,jC⟩
    exact hRR D Cc h5 tk5 K' own' out σ' oc mc cvs nn hk' (I5.added jD5 Jx fun o e=>e.elim (fun e=>nJD _ e.2) fun e=>hDC e.1) nJC h0C hlc O' hcv hΦ'
  ·exact ⟨0,K₁,_,own₁,σ₁,[],h₃,_,o₀,[],0,oC,_,rfl,Nat.zero_le _,Nat.le_refl _,rfl,fun _ _ e=>e,Jsub,S₄,I₄,O,hΦ,st₄,Kept.upd_other (Kept.upd_other Kept.upd_self hItD) hItC,hi.2,Kept.upd_other Kept.upd_self hDC,.nil,Kept.upd_self,hlC⟩
 exact codeAny_compStart_list (loop _ rfl) (W.self 0 _ _ _ st₄ (loop _ rfl))
theorem Inv.freeze {K J:Kept}{l1 l l2:Led}{L:Addr}{m:Str→Option Value}{h:Heap}(I:Inv K J (l1++l++l2) L m h):Inv (fun a o=>K a o∨(a,o)∈l) J (l1++l2) L m h:=by
 have sub: ∀p∈l1++l2,p∈l1++l++l2:=fun p hp=>by
  simp only [List.mem_append] at hp⊢
  rcases hp with hp|hp<;>simp [hp]
 have nd:=I.nodup
 rw [List.append_assoc,List.map_append,List.nodup_append,List.map_append,List.nodup_append] at nd
 refine hideG fun M kM=>?_
 obtain ⟨n1,⟨n2,n3,n4⟩,n5⟩:=nd
 refine kM ?_
 clear kM
 refine ⟨?_,I.j,fun p hp=>I.ow p (sub p hp),?_,?_,fun p hp=>I.oj p (sub p hp),?_,I.ns,?_,I.jL,fun p hp=>I.oL p (sub p hp)⟩
 ·rintro a o (e|e)
  ·exact I.k a o e
  ·exact I.ow (a,o) (by simp [e])
 ·rw [List.map_append,List.nodup_append]
  exact ⟨n1,n3,fun a ha b hb=>n5 a ha b (List.mem_append_right _ hb)⟩
 ·rintro p hp o (e|e)
  ·exact I.ok p (sub p hp) o e
  ·have hm:p.1∈l.map (·.1):=List.mem_map.mpr ⟨_,e,rfl⟩
   rcases List.mem_append.mp hp with q|q
   ·exact n5 p.1 (List.mem_map_of_mem q) p.1 (List.mem_append_left _ hm) rfl
   ·exact n4 p.1 hm p.1 (List.mem_map_of_mem q) rfl
 ·rintro a o o' (e|e) z
  ·exact I.kj a o o' e z
  ·exact I.oj (a,o) (by simp [e]) o' z
 ·rintro o (e|e)
  ·exact I.kL o e
  ·exact I.oL (L,o) (by simp [e]) rfl
theorem comp_core {target iter elt:Expr}{ifs:List Expr}{pos:Pos}(ok:CompOk C.env scope caps){vs:List AVal}{Φ:Nat→List AVal→Own→Prop}(hsz:vs.length≤sizeLine)
  (hcl1: ∀y c,cl.lookup y=some c→C.env.cells.lookup y=some c) (hcl2: ∀y,(y,NameKind.free)∈scope.names→(cl.lookup y).isSome=true)
  (turn: ∀Cc (i:Nat) v out σ,vs[i]?=some v→Φ i out σ→C.h₀.get? Cc=none→OnlyCells (C.comp scope cl Cc) (capLv lv caps)→ ∃lv₁,(∀(j:Nat) w,(capLv lv caps)[j]?=some (some w)→lv₁[j]?=some (some w))∧CTgt G (C.comp scope cl Cc) (capLv lv caps) target v lv₁∧
   Tsts G (C.comp scope cl Cc) lv₁ σ ifs (fun b σ'=>if b then Ev G (C.comp scope cl Cc) lv₁ σ' elt (fun w σ''=>Φ (i+1) (out++ [w]) σ'') False else Φ (i+1) out σ') False)
  {K₁ J:Kept}{m:Str→Option Value}{own₁:Led}{σ₁:Own}{s:Shared}{h₁:Heap}{It:Addr}{St:Nat→Heap→Prop}(S:Sit G C lv K₁ J m) (I₁:Inv K₁ J own₁ C.L m h₁) (O:Owns G.w.params K₁ σ₁ own₁) (g:Grow C.L m h₁ s.heap) (hIt:h₁.get? It=none) (W:Itr G C.A K₁ vs It St) (st:St 0 s.heap)
  (hΦ:Φ 0 [] σ₁) {RR:Value→Addr→Result→Shared→Prop}{E:Value→Shared→Prop}
  (hRR: ∀D Cc h tk K' own' out σ' oC mC,(∀a o,K₁ a o→K' a o)→Inv K' (J.upd Cc oC) own' C.L m h→(∀o,¬J Cc o)→C.h₀.get? Cc=none→IsLocs oC mC→Owns G.w.params K' σ' own'→VRel G.w.params K' (.lst out) (.ref D)→Φ vs.length out σ'→RR (.ref D) Cc (.ok .next) {s with heap:=h,toks:=tk}):
  wpAny (model G.prog G.w) C.A (newList []) (fun acc s₃=>wpAny (model G.prog G.w) C.A (newFunctionEnv scope C.env.globals cl [] C.env.qual none .none (some C.env)) (fun cenv s₄=>
   codeAny (model G.prog G.w) C.A (.compStart (.ListComp elt [⟨target,iter,ifs,0⟩] scope pos) 0 (.ref It) acc {cenv with scope:=relabel scope C.env}) (RR acc cenv.locals) s₄) E s₃) E s:=by
 refine comp_coreO ok hsz hcl1 hcl2 turn S I₁ O g hIt W st hΦ fun D Cc h tk K' own' out σ' oC mC cvs nn k1 I2 nC h0 hl O2 r q=>?_
 have I3:=Inv.freeze (l1:=own') (l:= [(D,seqObj "list" cvs nn)]) (l2:= []) (by rw [List.append_nil];exact I2)
 rw [List.append_nil] at I3
 exact hRR D Cc h tk _ own' out σ' oC mC (fun a o z=> .inl (k1 _ _ z)) I3 nC h0 hl (O2.mono fun _ _ z=> .inl z) (.lst (.inr (List.mem_singleton_self _)) (r.mono fun _ _ z=> .inl z)) q
end
section
variable {G:Gl}{C:Cx}{lv:List (Option AVal)}{scope:Scope}{σ:Own}
noncomputable abbrev CTurn (G:Gl)(C:Cx)(lv:List (Option AVal))(scope:Scope)(caps:List (Option Nat))(target elt:Expr)(ifs:List Expr)(Φ:Nat→List AVal→Own→Prop)(i:Nat)(v:AVal)(out:List AVal)(σ:Own):Prop:=
 ∀cl Cc,C.h₀.get? Cc=none→OnlyCells (C.comp scope cl Cc) (capLv lv caps)→ ∃lv₁,(∀(j:Nat) w,(capLv lv caps)[j]?=some (some w)→lv₁[j]?=some (some w))∧CTgt G (C.comp scope cl Cc) (capLv lv caps) target v lv₁∧
  Tsts G (C.comp scope cl Cc) lv₁ σ ifs (fun b σ'=>if b then Ev G (C.comp scope cl Cc) lv₁ σ' elt (fun w σ''=>Φ (i+1) (out++ [w]) σ'') False else Φ (i+1) out σ') False
theorem Ev.comp {target iter elt:Expr}{ifs:List Expr}{pos:Pos}{Q:AVal→Own→Prop}{x:Prop}(caps:List (Option Nat))(vs:List AVal)(Φ:Nat→List AVal→Own→Prop)
  (hit:Ev G C lv σ iter (fun v σ₁=>IterOf v vs∧Φ 0 [] σ₁) x)
  (turn: ∀(i:Nat) v out σ,vs[i]?=some v→Φ i out σ→CTurn G C lv scope caps target elt ifs Φ i v out σ)
  (done: ∀out σ,Φ vs.length out σ→Q (.lst out) σ)
  (hsz:vs.length≤16777216)
  (ok:compChk C.env scope caps=true:=by rfl)
  (hs: ∀y,foldedSetIterable iter C.env y=pure y:=by intro _;rfl):Ev G C lv σ (.ListComp elt [⟨target,iter,ifs,0⟩] scope pos) Q x:=fun K J m own s S I O=>by
 have ok':=CompOk.of ok
 refine hideG fun M kM=>?_
 obtain ⟨cl,hc,hcl1,hcl2⟩:=closureFor_get (env:=C.env) (scope:=scope) fun y hy e=>(ok'.free y hy e).2
 refine kM ?_
 clear kM
 rw [eval_ListComp]
 refine wpAny_comprehension_free (e:= .ListComp elt [⟨target,iter,ifs,0⟩] scope pos) (g:=⟨target,iter,ifs,0⟩) (gs:= []) (use:=Option.none) rfl hs hc ok'.kind ok'.names (hit.seq S I O (fun K₁ own₁ v σ₁ h₁ tk₁ cv k₁ I₁ O₁ r₁ S₁ q₁=>?_) fun _ _ f=>f)
 obtain ⟨hI,hΦ⟩:=q₁
 refine iter_of S.hh hI I₁ r₁ fun It St h₂ tk₂ g hIt W st=>?_
 refine comp_core (C:=C) (s:={s with heap:=h₂,toks:=tk₂}) (RR:=fun acc Cc=>compPost (model G.prog G.w) C.A (fun ev s'=>x∧Flown C s ev s') Option.none (Post G C.L m K J s Q) acc Cc) ok' hsz hcl1 hcl2 (fun Cc i v out σ a b=>turn i v out σ a b cl Cc) S₁ I₁ O₁ g hIt W st hΦ ?_
 intro D Cc h tk K' own' out σ' oC mC hk I' nC h0 hl O' r q
 refine ⟨mC,ns_of_locs (I'.j _ _ Kept.upd_self) hl,fun h' hs'=>?_⟩
 have I'':=I'.delJ (fun b ob n e=>(hs'.2 b n).trans e) Kept.upd_self
 refine ⟨K',own',_,σ',h',tk,rfl,fun a o z=>hk _ _ (k₁ _ _ z),{I'' with j:=fun a o e=>I''.j a o ⟨fun q=>nC _ (q▸e),Kept.upd_other e fun q=>nC _ (q▸e)⟩,oj:=fun p hp o e=>I''.oj p hp o ⟨fun q=>nC _ (q▸e),Kept.upd_other e fun q=>nC _ (q▸e)⟩,kj:=fun a o o' e z=>I''.kj a o o' e ⟨fun q=>nC _ (q▸z),Kept.upd_other z fun q=>nC _ (q▸z)⟩,jL:=fun o e=>I''.jL o ⟨fun q=>nC _ (q▸e),Kept.upd_other e fun q=>nC _ (q▸e)⟩},O',r,done _ _ q⟩
end
noncomputable def put {κ α:Type} [DecidableEq κ] (kvs:List (κ×α))(k:κ)(v:α):List (κ×α):=
 if kvs.any (fun kv=>kv.1=k) then kvs.map (fun kv=>if kv.1=k then (kv.1,v) else kv) else kvs++ [(k,v)]
noncomputable def at' {κ α:Type} [DecidableEq κ] (kvs:List (κ×α))(k:κ):Option α:=(kvs.find? fun kv=>kv.1=k).map (·.2)
inductive PRel {κ:Type}(P:Params)(K:Kept):List (κ×AVal)→List (κ×Value)→Prop where
 |nil:PRel P K [] []
 |cons {k:κ}{v:AVal}{cv:Value}{kvs:List (κ×AVal)}{cks:List (κ×Value)}(h:VRel P K v cv) (hs:PRel P K kvs cks):PRel P K ((k,v)::kvs) ((k,cv)::cks)
section
variable {κ:Type}{P:Params}{K:Kept}
theorem PRel.keys {kvs:List (κ×AVal)}{cks:List (κ×Value)}(h:PRel P K kvs cks):cks.map (·.1)=kvs.map (·.1):=by
 induction h with
 |nil=>rfl
 |cons _ _ ih=>rw [List.map_cons,List.map_cons,ih]
theorem PRel.snoc {k:κ}{v:AVal}{cv:Value}{kvs:List (κ×AVal)}{cks:List (κ×Value)}(h:PRel P K kvs cks)(r:VRel P K v cv):PRel P K (kvs++ [(k,v)]) (cks++ [(k,cv)]):=by
 induction h with
 |nil=>exact .cons r .nil
 |cons h _ ih=>exact .cons h ih
variable [DecidableEq κ]
theorem PRel.at {kvs:List (κ×AVal)}{cks:List (κ×Value)}(h:PRel P K kvs cks)(k:κ):(at' kvs k=none∧valueAt cks k=none)∨ ∃v cv,at' kvs k=some v∧valueAt cks k=some cv∧VRel P K v cv:=by
 unfold at' valueAt
 induction h with
 |nil=>exact .inl ⟨rfl,rfl⟩
 | @cons k' v cv _ _ h hs ih=>
  by_cases e:k'=k
  ·exact .inr ⟨v,cv,by simp [e],by simp [e],h⟩
  ·rw [List.find?_cons_of_neg (by simpa using e),List.find?_cons_of_neg (by simpa using e)];exact ih
theorem PRel.mapPut {k:κ}{v:AVal}{cv:Value}(r:VRel P K v cv){kvs:List (κ×AVal)}{cks:List (κ×Value)}(h:PRel P K kvs cks):PRel P K (kvs.map fun kv=>if kv.1=k then (kv.1,v) else kv) (cks.map fun kv=>if kv.1=k then (kv.1,cv) else kv):=by
 induction h with
 |nil=>exact .nil
 | @cons k' _ _ _ _ h hs ih=>
  rw [List.map_cons,List.map_cons]
  by_cases e:k'=k
  ·rw [if_pos e,if_pos e];exact .cons r ih
  ·rw [if_neg e,if_neg e];exact .cons h ih
theorem PRel.anyKey {k:κ}{kvs:List (κ×AVal)}{cks:List (κ×Value)}(h:PRel P K kvs cks):(cks.any fun kv=>kv.1=k)=kvs.any fun kv=>kv.1=k:=by
 induction h with
 |nil=>rfl
 |cons _ _ ih=>rw [List.any_cons,List.any_cons,ih]
theorem PRel.put {k:κ}{v:AVal}{cv:Value}{kvs:List (κ×AVal)}{cks:List (κ×Value)}(h:PRel P K kvs cks)(r:VRel P K v cv):PRel P K (put kvs k v) (stored cks k cv):=by
 unfold Internal.put stored
 rw [h.anyKey (k:=k)]
 split
 ·exact h.mapPut r
 ·exact h.snoc r
end
theorem obj_exact {o:Obj}{es:Array DictEntry}{n:Nat}(h:o.ExactDict)(hd:o.data= .dict es n):o=dictOf es.toList n:=by
 refine hideG fun M kM=>?_
 obtain ⟨c,d,dt,sl⟩:=o
 obtain ⟨h1,h2,h3⟩:=h
 refine kM ?_
 clear kM
 dsimp only at h1 h2 h3 hd
 subst h1 h2 h3 hd
 simp [dictOf]
noncomputable abbrev knS (G:Gl):=PySem.strKind G.prog G.w
noncomputable abbrev knB (G:Gl):=bytesKind G.prog G.w
theorem isS {G:Gl}(k:Str)(t:Tok):(knS G).is k (.str k t)=true:=by simp [PySem.strKind,Value.isStrOf]
theorem isB {G:Gl}(k:List UInt8)(t:Tok):(knB G).is k (.bytes k.toArray t)=true:=by simp [bytesKind,isBytes]
theorem shS {G:Gl}{k:Str}{v:Value}(h:(knS G).is k v=true): ∃t,v= .str k t:=Value.isStrOf_shape h
theorem shB {G:Gl}{k:List UInt8}{v:Value}(h:(knB G).is k v=true): ∃t,v= .bytes k.toArray t:=isBytes_shape h
section
variable {G:Gl}{K:Kept}
theorem ERelS.keysOf' {kvs:List (Str×AVal)}{es:List DictEntry}(h:ERelS G.w.params K kvs es): ∀e∈es,∃k,(knS G).is k e.key=true∧e.hash=(knS G).hash k:=by
 induction kvs generalizing es with
 |nil=>exact h.nilE fun _ he=>nomatch he
 |cons p r ih=>
  refine h.consE fun t c l _ hs e he=>?_
  rcases List.mem_cons.mp he with rfl|he
  ·exact ⟨p.1,isS p.1 t,rfl⟩
  ·exact ih hs e he
theorem ERelS.prel {kvs:List (Str×AVal)}{es:List DictEntry}(h:ERelS G.w.params K kvs es): ∃cks:List (Str×Value),Pairs (knS G) es cks∧PRel G.w.params K kvs cks:=by
 induction kvs generalizing es with
 |nil=>exact h.nilE ⟨[],.nil,.nil⟩
 |cons p r ih=>
  refine h.consE fun t c l h hs=>?_
  obtain ⟨cks,h1,h2⟩:=ih hs
  exact ⟨(p.1,c)::cks,.cons (isS p.1 t) rfl h1,.cons h h2⟩
theorem ERelS.dictOf {kvs:List (Str×AVal)}{es:List DictEntry}{n:Nat}{h:Heap}{a:Addr}(r:ERelS G.w.params K kvs es)(e:h.get? a=some (PySem.W.dictOf es n))(hn:(kvs.map (·.1)).Nodup): ∃cks:List (Str×Value),h.DictOf (knS G) a cks∧PRel G.w.params K kvs cks:=by
 obtain ⟨cks,h1,h2⟩:=r.prel
 exact ⟨cks,⟨_,_,_,e,⟨rfl,rfl,rfl⟩,rfl,fun x hx=>r.keysOf' x (by simpa using hx),h1,by rw [h2.keys];exact hn⟩,h2⟩
theorem ERelS.of_pairs {kvs:List (Str×AVal)}{cks:List (Str×Value)}{es:List DictEntry}(p:PRel G.w.params K kvs cks)(hp:Pairs (knS G) es cks)(hk: ∀e∈es,∃k,(knS G).is k e.key=true∧e.hash=(knS G).hash k):ERelS G.w.params K kvs es:=by
 induction p generalizing es with
 |nil=>cases hp;exact .nil
 |cons h hs ih=>
  cases hp with
  | @cons e _ _ _ h1 h2 h3=>
   have ih:=ih h3 fun x hx=>hk x (List.mem_cons_of_mem _ hx)
   refine hideG fun M kM=>?_
   obtain ⟨k',e1,e2⟩:=hk e List.mem_cons_self
   have:=(knS G).inj _ _ _ e1 h1
   obtain ⟨eh,ek,ev⟩:=e
   refine kM ?_
   clear kM
   dsimp only at h1 h2 e2
   obtain ⟨t,rfl⟩:=shS h1
   subst this h2 e2
   exact .cons h ih
theorem ERelS.of_dictOf {kvs:List (Str×AVal)}{cks:List (Str×Value)}{h:Heap}{a:Addr}(p:PRel G.w.params K kvs cks)(d:h.DictOf (knS G) a cks): ∃es n,h.get? a=some (PySem.W.dictOf es n)∧ERelS G.w.params K kvs es:=by
 refine hideG fun M kM=>?_
 obtain ⟨o,es,ep,ho,hx,hd,hk,hp,hn⟩:=d
 refine kM ?_
 clear kM
 refine ⟨es.toList,ep,by rw [ho,obj_exact hx hd],.of_pairs p hp fun e he=>hk e (by simpa using he)⟩
end
section
variable {G:Gl}{K:Kept}
theorem ERelB.keysOf' {kvs:List (List UInt8×AVal)}{es:List DictEntry}(h:ERelB G.w.params K kvs es): ∀e∈es,∃k,(knB G).is k e.key=true∧e.hash=(knB G).hash k:=by
 induction kvs generalizing es with
 |nil=>exact h.nilE fun _ he=>nomatch he
 |cons p r ih=>
  refine h.consE fun t c l _ hs e he=>?_
  rcases List.mem_cons.mp he with rfl|he
  ·exact ⟨p.1,isB p.1 t,rfl⟩
  ·exact ih hs e he
theorem ERelB.prel {kvs:List (List UInt8×AVal)}{es:List DictEntry}(h:ERelB G.w.params K kvs es): ∃cks:List (List UInt8×Value),Pairs (knB G) es cks∧PRel G.w.params K kvs cks:=by
 induction kvs generalizing es with
 |nil=>exact h.nilE ⟨[],.nil,.nil⟩
 |cons p r ih=>
  refine h.consE fun t c l h hs=>?_
  obtain ⟨cks,h1,h2⟩:=ih hs
  exact ⟨(p.1,c)::cks,.cons (isB p.1 t) rfl h1,.cons h h2⟩
theorem ERelB.dictOf {kvs:List (List UInt8×AVal)}{es:List DictEntry}{n:Nat}{h:Heap}{a:Addr}(r:ERelB G.w.params K kvs es)(e:h.get? a=some (PySem.W.dictOf es n))(hn:(kvs.map (·.1)).Nodup): ∃cks:List (List UInt8×Value),h.DictOf (knB G) a cks∧PRel G.w.params K kvs cks:=by
 obtain ⟨cks,h1,h2⟩:=r.prel
 exact ⟨cks,⟨_,_,_,e,⟨rfl,rfl,rfl⟩,rfl,fun x hx=>r.keysOf' x (by simpa using hx),h1,by rw [h2.keys];exact hn⟩,h2⟩
theorem ERelB.of_pairs {kvs:List (List UInt8×AVal)}{cks:List (List UInt8×Value)}{es:List DictEntry}(p:PRel G.w.params K kvs cks)(hp:Pairs (knB G) es cks)(hk: ∀e∈es,∃k,(knB G).is k e.key=true∧e.hash=(knB G).hash k):ERelB G.w.params K kvs es:=by
 induction p generalizing es with
 |nil=>cases hp;exact .nil
 |cons h hs ih=>
  cases hp with
  | @cons e _ _ _ h1 h2 h3=>
   have ih:=ih h3 fun x hx=>hk x (List.mem_cons_of_mem _ hx)
   refine hideG fun M kM=>?_
   obtain ⟨k',e1,e2⟩:=hk e List.mem_cons_self
   have:=(knB G).inj _ _ _ e1 h1
   obtain ⟨eh,ek,ev⟩:=e
   refine kM ?_
   clear kM
   dsimp only at h1 h2 e2
   obtain ⟨t,rfl⟩:=shB h1
   subst this h2 e2
   exact .cons h ih
theorem ERelB.of_dictOf {kvs:List (List UInt8×AVal)}{cks:List (List UInt8×Value)}{h:Heap}{a:Addr}(p:PRel G.w.params K kvs cks)(d:h.DictOf (knB G) a cks): ∃es n,h.get? a=some (PySem.W.dictOf es n)∧ERelB G.w.params K kvs es:=by
 refine hideG fun M kM=>?_
 obtain ⟨o,es,ep,ho,hx,hd,hk,hp,hn⟩:=d
 refine kM ?_
 clear kM
 refine ⟨es.toList,ep,by rw [ho,obj_exact hx hd],.of_pairs p hp fun e he=>hk e (by simpa using he)⟩
end
section
variable {P:Params}{K:Kept}
theorem Owns.at {σ:Own}{own:Led}(h:Owns P K σ own){i:Nat}{a:Addr}{o:OObj}(e:σ[i]?=some (a,o)):
  ∃l1 l l2,own=l1++l++l2∧OwnRel P K o a l∧ ∀K' o' l',(∀a o,K a o→K' a o)→OwnRel P K' o' a l'→Owns P K' (σ.set i (a,o')) (l1++l'++l2):=by
 induction h generalizing i with
 |nil=>cases e
 | @cons _ _ l _ own h hs ih=>
  cases i with
  |zero=>
   cases e
   exact ⟨[],l,own,rfl,h,fun K' o' l' hk h'=> .cons h' (hs.mono hk)⟩
  |succ i=>
   obtain ⟨l1,l',l2,rfl,r,k⟩:=ih e
   refine ⟨l++l1,l',l2,?_,r,fun K' o' l'' hk h'=>?_⟩
   ·rw [List.append_assoc l,List.append_assoc l]
   ·rw [List.append_assoc l,List.append_assoc l];exact .cons (h.mono hk) (k K' o' l'' hk h')
@[elab_as_elim] theorem Owns.listE {σ:Own}{own:Led}{i:Nat}{a:Addr}{vs:List AVal}{M:Led→Prop}(O:Owns P K σ own)(hj:σ[i]?=some (a,.list vs))(k: ∀l1 l2 cvs n,VRels P K vs cvs→(∀K' o' l',(∀a o,K a o→K' a o)→OwnRel P K' o' a l'→Owns P K' (σ.set i (a,o')) (l1++l'++l2))→M (l1++ [(a,seqObj "list" cvs n)]++l2)):M own:=by
 obtain ⟨l1,l,l2,rfl,r,kk⟩:=O.at hj
 exact r.listE fun _ _ h=>k _ _ _ _ h kk
@[elab_as_elim] theorem Owns.dSE {σ:Own}{own:Led}{i:Nat}{a:Addr}{kvs:List (Str×AVal)}{M:Led→Prop}(O:Owns P K σ own)(hj:σ[i]?=some (a,.dS kvs))(k: ∀l1 l2 es n,ERelS P K kvs es→a≠sysModules→(∀K' o' l',(∀a o,K a o→K' a o)→OwnRel P K' o' a l'→Owns P K' (σ.set i (a,o')) (l1++l'++l2))→M (l1++ [(a,dictOf es n)]++l2)):M own:=by
 obtain ⟨l1,l,l2,rfl,r,kk⟩:=O.at hj
 exact r.dSE fun _ _ h g=>k _ _ _ _ h g kk
@[elab_as_elim] theorem Owns.dBE {σ:Own}{own:Led}{i:Nat}{a:Addr}{kvs:List (List UInt8×AVal)}{M:Led→Prop}(O:Owns P K σ own)(hj:σ[i]?=some (a,.dB kvs))(k: ∀l1 l2 es n,ERelB P K kvs es→a≠sysModules→(∀K' o' l',(∀a o,K a o→K' a o)→OwnRel P K' o' a l'→Owns P K' (σ.set i (a,o')) (l1++l'++l2))→M (l1++ [(a,dictOf es n)]++l2)):M own:=by
 obtain ⟨l1,l,l2,rfl,r,kk⟩:=O.at hj
 exact r.dBE fun _ _ h g=>k _ _ _ _ h g kk
@[elab_as_elim] theorem Owns.instE {σ:Own}{own:Led}{i:Nat}{a:Addr}{Cl:Addr}{kvs:List (Str×AVal)}{M:Led→Prop}(O:Owns P K σ own)(hj:σ[i]?=some (a,.inst Cl kvs))(k: ∀l1 l2 d es n,ERelS P K kvs es→(∀K' o' l',(∀a o,K a o→K' a o)→OwnRel P K' o' a l'→Owns P K' (σ.set i (a,o')) (l1++l'++l2))→M (l1++ [(a,instObj Cl d),(d,dictOf es n)]++l2)):M own:=by
 obtain ⟨l1,l,l2,rfl,r,kk⟩:=O.at hj
 exact r.instE fun _ _ _ h=>k _ _ _ _ _ h kk
@[elab_as_elim] theorem Owns.barrE {σ:Own}{own:Led}{i:Nat}{a:Addr}{b:List UInt8}{M:Led→Prop}(O:Owns P K σ own)(hj:σ[i]?=some (a,.barr b))(k: ∀l1 l2,(∀K' o' l',(∀a o,K a o→K' a o)→OwnRel P K' o' a l'→Owns P K' (σ.set i (a,o')) (l1++l'++l2))→M (l1++ [(a,bytearrayObj b)]++l2)):M own:=by
 obtain ⟨l1,l,l2,rfl,r,kk⟩:=O.at hj
 exact r.barrE (k _ _ kk)
theorem Inv.mem {K J:Kept}{l1 l l2:Led}{L:Addr}{m:Str→Option Value}{h:Heap}(I:Inv K J (l1++l++l2) L m h){p:Addr×Obj}(hp:p∈l):h.get? p.1=some p.2:=I.ow p (by simp [hp])
theorem Inv.mut {K J:Kept}{l1 l2:Led}{a:Addr}{o o':Obj}{L:Addr}{m:Str→Option Value}{h h':Heap}(I:Inv K J (l1++(a,o)::l2) L m h)(hk: ∀b ob,b≠a→h.get? b=some ob→h'.get? b=some ob)(ho:h'.get? a=some o'):Inv K J (l1++(a,o')::l2) L m h':=by
 have aL:a≠L:=I.oL (a,o) (by simp)
 obtain ⟨oL,es,ep,hL1,hL2⟩:=I.ns
 have nd:=I.nodup
 rw [List.map_append,List.map_cons] at nd
 have key: ∀p∈l1++(a,o')::l2,p=(a,o')∨(p∈l1++(a,o)::l2∧p.1≠a):=fun p hp=>by
  rw [List.mem_append,List.mem_cons] at hp
  rw [List.nodup_append] at nd
  obtain ⟨_,n2,n3⟩:=nd
  rw [List.nodup_cons] at n2
  rcases hp with hp|rfl|hp
  ·refine .inr ⟨List.mem_append_left _ hp,fun q=>?_⟩
   exact n3 p.1 (List.mem_map_of_mem hp) a (by simp) q
  ·exact .inl rfl
  ·refine .inr ⟨List.mem_append_right _ (List.mem_cons_of_mem _ hp),fun q=>n2.1 (by have z:p.1∈l2.map (·.1):=List.mem_map_of_mem hp;rw [q] at z;exact z)⟩
 refine ⟨fun b ob e=>hk b ob (fun q=>I.ok (a,o) (by simp) ob (q▸e)) (I.k b ob e),fun b ob e=>hk b ob (fun q=>I.oj (a,o) (by simp) ob (q▸e)) (I.j b ob e),fun p hp=>?_,by simpa using nd,fun p hp ob=>?_,fun p hp ob=>?_,I.kj,⟨oL,es,ep,hk _ _ (Ne.symm aL) hL1,hL2⟩,I.kL,I.jL,fun p hp=>?_⟩
 ·rcases key p hp with rfl|⟨q,n⟩
  ·exact ho
  ·exact hk _ _ n (I.ow p q)
 ·rcases key p hp with rfl|⟨q,n⟩
  ·exact I.ok (a,o) (by simp) ob
  ·exact I.ok p q ob
 ·rcases key p hp with rfl|⟨q,n⟩
  ·exact I.oj (a,o) (by simp) ob
  ·exact I.oj p q ob
 ·rcases key p hp with rfl|⟨q,n⟩
  ·exact aL
  ·exact I.oL p q
end
section
variable {G:Gl}{C:Cx}{lv:List (Option AVal)}{σ:Own}{Q:AVal→Own→Prop}{x:Prop}
theorem tail_all {prog:Program}{w:World}{A:Around}{E:Value→Shared→Prop}{s:Shared}{value slice:Expr}{o i:Value}{ops:List Value}{Q:Value→Shared→Prop}(h:ItemOn (model prog w) A E o i Q s)
  (hs:subscripted slice false o i=operate ops (getItem o i)):wpAny (model prog w) A (subscriptTail value slice o i) Q E s:=by
 obtain ⟨T,id,hl,hT,hg⟩:=h
 unfold subscriptTail
 refine wpAny_bind ?_
 refine rwG (getitemInPython_of_ne hT.not_modules ..) ?_
 refine wpAny_bind (wpAny_specialOf hT hl ?_)
 have fin:wpAny (model prog w) A (subscripted slice false o i) (fun r s₃=>wpAny (model prog w) A (letTemporaryGo value o r>>=fun _=>pure r) Q E s₃) E s:=by
  refine rwG (hs ..) ?_
  exact wpAny_operating (wpAny_mono hg (fun r s₃ h₃=>wpAny_bind (wpAny_letTemporaryGo (wpAny_pure h₃))) fun _ _ x=>x)
 first
  |exact wpAny_pure (wpAny_bind fin)
  |exact wpAny_bind (wpAny_pure (wpAny_bind fin))
  |exact wpAny_bind fin
noncomputable def Item (G:Gl)(C:Cx)(lv:List (Option AVal))(σ:Own)(a b:AVal)(Q:AVal→Own→Prop)(x:Prop):Prop:=
 ∀K J m own s ca cb,Sit G C lv K J m→Inv K J own C.L m s.heap→Owns G.w.params K σ own→VRel G.w.params K a ca→VRel G.w.params K b cb→
  ItemOn (model G.prog G.w) C.A (fun ev s'=>x∧Flown C s ev s') ca cb (Post G C.L m K J s Q) s
theorem Ev.sub {value slice:Expr}{pos:Pos}(h:Ev G C lv σ value (fun a σ₁=>Ev G C lv σ₁ slice (fun b σ₂=>Item G C lv σ₂ a b Q x) x) x)
  (hs: ∀o i,subscripted slice false o i=operate [o,i] (getItem o i):=by intro _ _;rfl):Ev G C lv σ (.Subscript value slice pos) Q x:=fun K J m own s S I O=>by
 refine Subscript_ (h.seq S I O (fun K₁ own₁ a σ₁ h₁ tk₁ ca k₁ I₁ O₁ r₁ S₁ q₁=>?_) fun _ _ f=>f)
 refine q₁.seq (s:={s with heap:=h₁,toks:=tk₁}) S₁ I₁ O₁ (fun K₂ own₂ b σ₂ h₂ tk₂ cb k₂ I₂ O₂ r₂ S₂ q₂=>?_) fun ev s' f=>⟨f.1,f.2.start rfl⟩
 obtain ⟨T,id,hl,hT,hg⟩:=q₂ K₂ J m own₂ {s with heap:=h₂,toks:=tk₂} ca cb S₂ I₂ O₂ (r₁.mono k₂) r₂
 exact tail_all ⟨T,id,hl,hT,wpAny_mono hg (fun cv s' p=>p.from fun a o z=>k₂ _ _ (k₁ _ _ z)) fun ev s' f=>⟨f.1,f.2.start rfl⟩⟩ (hs _ _)
theorem Item.list {vs:List AVal}{i:Int}{v:AVal}(h:Q v σ)(h0:0≤i)(hfit:i<2^63)(hv:vs[i.toNat]?=some v):Item G C lv σ (.lst vs) (.int i) Q x:=by
 intro K J m own s ca cb S I O ra rb
 refine rb.intE fun _=>ra.lstE fun _ _ _ hk hr=>?_
 obtain ⟨cv,hc,r⟩:=hr.get hv
 have hl:=seq_list (I.k _ _ hk)
 exact ⟨"list",_,slot_list_getitem.lookup,hl.typeIs,getItem_listL hl h0 hfit hc (.same I O r h)⟩
theorem Item.own {vs:List AVal}{i:Int}{v:AVal}{a:Addr}{j:Nat}(hj:σ[j]?=some (a,.list vs))(h:Q v σ)(h0:0≤i)(hfit:i<2^63)(hv:vs[i.toNat]?=some v):Item G C lv σ (.ref a) (.int i) Q x:=by
 intro K J m own s ca cb S I O ra rb
 refine rb.intE fun _=>ra.refE ?_
 have O':=O
 revert I O
 refine O'.listE hj fun _ _ _ _ hr _ I O=>?_
 obtain ⟨cv,hc,r⟩:=hr.get hv
 have hl:=seq_list (I.mem (List.mem_singleton_self _))
 exact ⟨"list",_,slot_list_getitem.lookup,hl.typeIs,getItem_listL hl h0 hfit hc (.same I O r h)⟩
theorem Item.tup {vs:List AVal}{i:Int}{v:AVal}(h:Q v σ)(h0:0≤i)(hfit:i<2^63)(hv:vs[i.toNat]?=some v):Item G C lv σ (.tup vs) (.int i) Q x:=by
 intro K J m own s ca cb S I O ra rb
 refine rb.intE fun _=>ra.tupE fun _ cvs n hk hr=>?_
 obtain ⟨cv,hc,r⟩:=hr.get hv
 have hl:IsTup s.heap _ cvs.toArray:=⟨_,I.k _ _ hk,rfl,_,rfl⟩
 have hi:=(List.getElem?_eq_some_iff.mp hc).1
 exact ⟨"tuple",_,slot_tuple_getitem.lookup,hl.typeIs,getItem_tuple hl (by lia) hfit (j:=i.toNat) (by
  have h1: ¬i<0:=by exact Int.not_lt_of_ge h0
  have h3:i<(cvs.length:Int):=by exact (Int.toNat_lt h0).mp hi
  simp [seqIndex?,h1,h0,h3]) (by simpa using hc) (.same I O r h)⟩
theorem Item.dS {kvs:List (Str×AVal)}{k:Str}{v:AVal}(h:Q v σ)(hn:(kvs.map (·.1)).Nodup)(hv:at' kvs k=some v):Item G C lv σ (.dS kvs) (.str k) Q x:=by
 intro K J m own s ca cb S I O ra rb
 refine rb.strE fun _=>ra.dSE fun _ _ _ hk hr hs=>?_
 ·obtain ⟨cks,hd,p⟩:=hr.dictOf (I.k _ _ hk) hn
  rcases p.at k with ⟨e,_⟩|⟨v',cv,e1,e2,r⟩
  ·rw [hv] at e;cases e
  ·rw [hv] at e1;cases e1
   exact ⟨"dict",_,slot_dict_getitem.lookup,hd.typeIs,wpAny_getItem_of (isS k _) hd.mapOf e2 ⟨K,own,_,σ,_,_,rfl,fun _ _ e=>e,I,O,r,h⟩⟩
theorem Item.ownB {kvs:List (List UInt8×AVal)}{k:List UInt8}{v:AVal}{a:Addr}{j:Nat}(hj:σ[j]?=some (a,.dB kvs))(h:Q v σ)(hn:(kvs.map (·.1)).Nodup)(hv:at' kvs k=some v):Item G C lv σ (.ref a) (.bytes k) Q x:=by
 intro K J m own s ca cb S I O ra rb
 refine rb.bytesE fun _=>ra.refE ?_
 have O':=O
 revert I O
 refine O'.dBE hj fun _ _ _ _ hr hs _ I O=>?_
 ·obtain ⟨cks,hd,p⟩:=hr.dictOf (I.mem (List.mem_singleton_self _)) hn
  rcases p.at k with ⟨e,_⟩|⟨v',cv,e1,e2,r⟩
  ·rw [hv] at e;cases e
  ·rw [hv] at e1;cases e1
   exact ⟨"dict",_,slot_dict_getitem.lookup,hd.typeIs,wpAny_getItem_of (isB k _) hd.mapOf e2 ⟨K,_,_,σ,_,_,rfl,fun _ _ e=>e,I,O,r,h⟩⟩
theorem Item.bytes {b:List UInt8}{i:Int}{c:UInt8}(h:Q (.int (c.toNat:Int)) σ)(hz:b.length≤1099511627776)(h0:0≤i)(hv:b[i.toNat]?=some c):Item G C lv σ (.bytes b) (.int i) Q x:=by
 intro K J m own s ca cb S I O ra rb
 refine rb.intE fun t=>ra.bytesE fun u=>?_
 have hi:=(List.getElem?_eq_some_iff.mp hv).1
 refine ⟨"bytes",_,FB.slot_bytes_getitem.lookup,typeIs_bytes _ _ _,getItem_bytes (l:=b) hz h0 (by exact (Int.toNat_lt h0).mp hi) ?_⟩
 refine rwG (List.getD_eq_getElem?_getD ..) ?_;refine rwG (hv ..) ?_
 exact ⟨K,_,_,σ,_,_,rfl,fun _ _ e=>e,I,O,.int _ _,h⟩
noncomputable def EvP (G:Gl)(C:Cx)(lv:List (Option AVal))(σ:Own)(p:Option Expr)(Q:Option Int→Own→Prop)(x:Prop):Prop:=
 Run (fun _ (b:Option Int) a=>IsPart a b) G C lv σ (evalPart p C.env) Q x
theorem EvP.none {Q:Option Int→Own→Prop}(h:Q Option.none σ):EvP G C lv σ Option.none Q x:=fun K J m own s S I O=>wpAny_pure (.same I O .none h)
theorem EvP.some {e:Expr}{Q:Option Int→Own→Prop}(h:Ev G C lv σ e (fun v σ₁=> ∃i,v= .int i∧Q (Option.some i) σ₁) x):EvP G C lv σ (Option.some e) Q x:=fun K J m own s S I O=>by
 refine wpAny_mono (h K J m own s S I O) (fun cv s' ⟨K',own',v,σ',h',tk',e,hk,I',O',r,i,hi,q⟩=>?_) fun _ _ f=>f
 subst hi
 exact r.intE fun _=>⟨K',own',_,σ',h',tk',e,hk,I',O',.int _ _,q⟩
noncomputable def cut {α:Type}(b:List α)(lo hi:Option Int):List α:=(b.drop (lo.elim 0 (clipAt b.length))).take (hi.elim b.length (clipAt b.length) - lo.elim 0 (clipAt b.length))
theorem VRels.drop {P:Params}{K:Kept}{vs:List AVal}{cvs:List Value}(h:VRels P K vs cvs)(n:Nat):VRels P K (vs.drop n) (cvs.drop n):=by
 induction n generalizing vs cvs with
 |zero=>exact h
 |succ n ih=>
  cases vs with
  |nil=>exact h.nilE .nil
  |cons v vs=>exact h.consE fun _ _ _ b=>ih b
theorem VRels.take {P:Params}{K:Kept}{vs:List AVal}{cvs:List Value}(h:VRels P K vs cvs)(n:Nat):VRels P K (vs.take n) (cvs.take n):=by
 induction n generalizing vs cvs with
 |zero=>exact .nil
 |succ n ih=>
  cases vs with
  |nil=>exact h.nilE .nil
  |cons v vs=>exact h.consE fun _ _ a b=> .cons a (ih b)
theorem Ev.sliceB {value:Expr}{lower upper:Option Expr}{p pos:Pos}
  (h:Ev G C lv σ value (fun a σ₁=> ∃b:List UInt8,a= .bytes b∧b.length≤16777216∧EvP G C lv σ₁ lower (fun lo σ₂=>EvP G C lv σ₂ upper (fun hi σ₃=>Q (.bytes (cut b lo hi)) σ₃) x) x) x):
  Ev G C lv σ (.Subscript value (.Slice lower upper Option.none p) pos) Q x:=fun K J m own s S I O=>by
 refine Subscript_ (h.seq S I O (fun K₁ own₁ a σ₁ h₁ tk₁ ca k₁ I₁ O₁ r₁ S₁ q₁=>?_) fun _ _ f=>f)
 obtain ⟨b,rfl,hz,q₁⟩:=q₁
 refine r₁.bytesE fun t=>?_
 refine wpAny_Slice (q₁.seq (s:={s with heap:=h₁,toks:=tk₁}) S₁ I₁ O₁ (fun K₂ own₂ lo σ₂ h₂ tk₂ vl k₂ I₂ O₂ r₂ S₂ q₂=>?_) fun ev s' f=>⟨f.1,f.2.start rfl⟩)
 refine q₂.seq (s:={s with heap:=h₂,toks:=tk₂}) S₂ I₂ O₂ (fun K₃ own₃ hi σ₃ h₃ tk₃ vu k₃ I₃ O₃ r₃ S₃ q₃=>?_) fun ev s' f=>⟨f.1,Flown.start (h:=_) (tk:=_) rfl f.2⟩
 refine rwG (evalPart_none ..) ?_
 refine wpAny_pure (tail_all (ops:= [.ref _,.bytes b.toArray t]) ⟨"bytes",_,FB.slot_bytes_getitem.lookup,typeIs_bytes _ _ _,getItem_meets (typeIs_bytes _ _ _) (by decide) FB.slot_bytes_getitem FB.entry_bytes_getitem (FB.args_bytes_getitem_2 _ _) (KBc.meets_slice2 b.toArray t _ r₂ r₃) ⟨Heap.IsSliceOf.new _ _ _ _,?_,fun t' k=>?_⟩⟩ rfl)
 ·refine Nat.le_trans (KBc.size_picked_le _ lo hi) ?_
  rw [sizeLine_eq];simpa using hz
 ·refine rwG (KBc.picked_eq ..) ?_
  refine ⟨K₃,own₃,_,σ₃,_,k,rfl,fun a o z=>k₃ _ _ (k₂ _ _ (k₁ _ _ z)),I₃.grow (grow_push _ I₃.ns),O₃,?_,q₃⟩
  have:cut b lo hi=((b.toArray.toList.drop (lo.elim 0 (clipAt b.toArray.size))).take (hi.elim b.toArray.size (clipAt b.toArray.size) - lo.elim 0 (clipAt b.toArray.size))):=by
   unfold cut
   simp
  refine rwGr (this ..) ?_
  exact .bytes _ _
theorem VRel.isList {P:Params}{K:Kept}{v:AVal}{vs:List AVal}{cv:Value}(h:v= .lst vs∨v= .lsx vs)(r:VRel P K v cv): ∃a o cvs n,cv= .ref a∧K a o∧o.cls= .type "list"∧o.data= .seq (List.toArray cvs) n∧VRels P K vs cvs:=by
 rcases h with rfl|rfl
 ·exact r.lstE fun _ _ _ hk hv=>⟨_,_,_,_,rfl,hk,rfl,rfl,hv⟩
 ·exact r.lsxE fun _ _ _ _ hk hc hd hv=>⟨_,_,_,_,rfl,hk,hc,hd,hv⟩
theorem Ev.sliceG {value:Expr}{lower upper:Option Expr}{p pos:Pos}
  (h:Ev G C lv σ value (fun a σ₁=> ∃vs:List AVal,(a= .lst vs∨a= .lsx vs)∧vs.length≤16777216∧EvP G C lv σ₁ lower (fun lo σ₂=>EvP G C lv σ₂ upper (fun hi σ₃=>Q (.lst (cut vs lo hi)) σ₃) x) x) x):
  Ev G C lv σ (.Subscript value (.Slice lower upper Option.none p) pos) Q x:=fun K J m own s S I O=>by
 refine Subscript_ (h.seq S I O (fun K₁ own₁ a σ₁ h₁ tk₁ ca k₁ I₁ O₁ r₁ S₁ q₁=>?_) fun _ _ f=>f)
 obtain ⟨vs,hvs,hz,q₁⟩:=q₁
 obtain ⟨a,ol,cvs,n,rfl,hk,hcl,hda,hv⟩:=r₁.isList hvs
 refine wpAny_Slice (q₁.seq (s:={s with heap:=h₁,toks:=tk₁}) S₁ I₁ O₁ (fun K₂ own₂ lo σ₂ h₂ tk₂ vl k₂ I₂ O₂ r₂ S₂ q₂=>?_) fun ev s' f=>⟨f.1,f.2.start rfl⟩)
 refine q₂.seq (s:={s with heap:=h₂,toks:=tk₂}) S₂ I₂ O₂ (fun K₃ own₃ hi σ₃ h₃ tk₃ vu k₃ I₃ O₃ r₃ S₃ q₃=>?_) fun ev s' f=>⟨f.1,Flown.start (h:=_) (tk:=_) rfl f.2⟩
 refine rwG (evalPart_none ..) ?_
 have hk3:=k₃ _ _ (k₂ _ _ hk)
 have hl:Heap.IsList (h₃.push {cls:= .type "slice",data:= .fields #[vl,vu,.none]}) a cvs.toArray:=Heap.IsList.push ⟨ol,I₃.k _ _ hk3,hcl,n,hda⟩ _
 have hlen:=hv.length
 refine wpAny_pure (tail_all (ops:= [.ref _,.ref a]) ⟨"list",_,list_getitem_lookup,Heap.IsList.typeIs (s:={s with heap:=h₃.push {cls:= .type "slice",data:= .fields #[vl,vu,.none]},toks:=tk₃}) hl,wpAny_getItem_list_slice hl (Heap.IsSliceOf.new ..) r₂ r₃ .none (by simp) ?_ (by rw [sizeLine_eq];simp;lia)⟩ rfl)
 refine rwG (slicePick_plain ..) ?_
 have g1:=grow_push (L:=C.L) (m:=m) {cls:= .type "slice",data:= .fields #[vl,vu,.none]} I₃.ns
 have I4:=I₃.grow g1
 have e:cvs.toArray.toList=cvs:=by simp
 refine rwG (e ..) ?_;refine rwG (List.size_toArray ..) ?_
 have I5:=I4.add (o:=seqObj "list" ((cvs.drop (lo.elim 0 (clipAt cvs.length))).take (hi.elim cvs.length (clipAt cvs.length) - lo.elim 0 (clipAt cvs.length))) 0) (grow_push _ I4.ns) (size_none _) (Heap.get?_push_size _ rfl)
 refine ⟨_,own₃,_,σ₃,_,tk₃,rfl,fun a o z=>Kept.sub _ _ (k₃ _ _ (k₂ _ _ (k₁ _ _ z))),I5,O₃.mono Kept.sub,.lst Kept.new (n:=0) ?_,q₃⟩
 unfold cut
 refine rwG (hlen ..) ?_
 exact ((hv.mono fun a o z=>Kept.sub _ _ (k₃ _ _ (k₂ _ _ z))).drop _).take _
theorem Ev.sliceL {value:Expr}{lower upper:Option Expr}{p pos:Pos}
 (h:Ev G C lv σ value (fun a σ₁=> ∃vs:List AVal,a= .lst vs∧vs.length≤16777216∧EvP G C lv σ₁ lower (fun lo σ₂=>EvP G C lv σ₂ upper (fun hi σ₃=>Q (.lst (cut vs lo hi)) σ₃) x) x) x):
 Ev G C lv σ (.Subscript value (.Slice lower upper Option.none p) pos) Q x:=Ev.sliceG (Run.mono h (fun _ _ ⟨vs,e,r⟩=>⟨vs,.inl e,r⟩) id)
theorem Ev.sliceX {value:Expr}{lower upper:Option Expr}{p pos:Pos}
 (h:Ev G C lv σ value (fun a σ₁=> ∃vs:List AVal,a= .lsx vs∧vs.length≤16777216∧EvP G C lv σ₁ lower (fun lo σ₂=>EvP G C lv σ₂ upper (fun hi σ₃=>Q (.lst (cut vs lo hi)) σ₃) x) x) x):
 Ev G C lv σ (.Subscript value (.Slice lower upper Option.none p) pos) Q x:=Ev.sliceG (Run.mono h (fun _ _ ⟨vs,e,r⟩=>⟨vs,.inr e,r⟩) id)
end
section
variable {G:Gl}{C:Cx}{lv:List (Option AVal)}{σ:Own}{Q:AVal→Own→Prop}{x:Prop}
theorem sys_lt {K J:Kept}{own:Led}{m:Str→Option Value}{h:Heap}(S:Sit G C lv K J m)(I:Inv K J own C.L m h):h.objs.size≠sysModules:=by
 obtain ⟨o,_,_,e,_⟩:=S.glo.g
 have:=Heap.lt_size ((S.fr I).keep _ _ e)
 intro q
 rw [q] at this
 exact absurd this (by decide)
theorem Inv.ownEnd {K J:Kept}{l:Led}{L:Addr}{m:Str→Option Value}{h h':Heap}{a:Addr}{o:Obj}(I:Inv K J l L m h)(g:Grow L m h h')(hn:h.get? a=none)(ho:h'.get? a=some o):Inv K J (l++ [(a,o)]) L m h':=by
 have I':=I.own1 g hn ho
 have key: ∀p∈l++ [(a,o)],p∈(a,o)::l:=fun p hp=>by
  rw [List.mem_append,List.mem_singleton] at hp
  rw [List.mem_cons]
  exact hp.symm
 refine {I' with ow:=fun p hp=>I'.ow p (key p hp),nodup:=?_,ok:=fun p hp=>I'.ok p (key p hp),oj:=fun p hp=>I'.oj p (key p hp),oL:=fun p hp=>I'.oL p (key p hp)}
 have:=I'.nodup
 rw [List.map_cons,List.nodup_cons] at this
 rw [List.map_append,List.nodup_append]
 exact ⟨this.2,by simp,fun b hb c hc q=>this.1 (by simp at hc;subst hc;exact q▸hb)⟩
theorem Ev.tuple {elts:List Expr}{x1:Nat}{pos:Pos}(h:Args' G C lv σ pos elts (fun vs σ₁=>vs.length≤16777216∧Q (.tup vs) σ₁) x):Ev G C lv σ (.Tuple elts x1 pos) Q x:=fun K J m own s S I O=>by
 refine wpAny_Tuple_spliced (h.seq S I O (fun K₁ own₁ vs σ₁ h₁ tk₁ cvs k₁ I₁ O₁ r₁ S₁ q₁=>⟨?_,?_⟩) fun _ _ f=>f)
 ·rw [sizeLine_eq,r₁.length];exact q₁.1
 ·have I2:=I₁.add (o:=seqObj "tuple" cvs 0) (grow_push _ I₁.ns) (size_none _) (Heap.get?_push_size _ rfl)
  exact ⟨_,own₁,_,σ₁,_,tk₁,rfl,fun a o z=>Kept.sub _ _ (k₁ _ _ z),I2,O₁.mono Kept.sub,.tup Kept.new (r₁.mono Kept.sub),q₁.2⟩
theorem Ev.list {elts:List Expr}{pos:Pos}(h:Args' G C lv σ pos elts (fun vs σ₁=>vs.length≤16777216∧Q (.lst vs) σ₁) x):Ev G C lv σ (.List elts pos) Q x:=fun K J m own s S I O=>by
 refine wpAny_List_spliced (h.seq S I O (fun K₁ own₁ vs σ₁ h₁ tk₁ cvs k₁ I₁ O₁ r₁ S₁ q₁=>⟨?_,?_⟩) fun _ _ f=>f)
 ·rw [sizeLine_eq,r₁.length];exact q₁.1
 ·have I2:=I₁.add (o:=seqObj "list" cvs 0) (grow_push _ I₁.ns) (size_none _) (Heap.get?_push_size _ rfl)
  exact ⟨_,own₁,_,σ₁,_,tk₁,rfl,fun a o z=>Kept.sub _ _ (k₁ _ _ z),I2,O₁.mono Kept.sub,.lst Kept.new (r₁.mono Kept.sub),q₁.2⟩
theorem Ev.listOwn {elts:List Expr}{pos:Pos}(h:Args' G C lv σ pos elts (fun vs σ₁=>vs.length≤16777216∧ ∀a,Q (.ref a) (σ₁++ [(a,.list vs)])) x):Ev G C lv σ (.List elts pos) Q x:=fun K J m own s S I O=>by
 refine wpAny_List_spliced (h.seq S I O (fun K₁ own₁ vs σ₁ h₁ tk₁ cvs k₁ I₁ O₁ r₁ S₁ q₁=>⟨?_,?_⟩) fun _ _ f=>f)
 ·rw [sizeLine_eq,r₁.length];exact q₁.1
 ·have I2:=I₁.ownEnd (o:=seqObj "list" cvs 0) (grow_push _ I₁.ns) (size_none _) (Heap.get?_push_size _ rfl)
  exact ⟨_,_,_,_,_,tk₁,rfl,k₁,I2,O₁.append (by simpa using Owns.cons (OwnRel.list r₁) .nil),.ref _,q₁.2 _⟩
noncomputable def SetI (G:Gl)(C:Cx)(lv:List (Option AVal))(σ:Own)(a b v:AVal)(Q:Own→Prop)(x:Prop):Prop:=
 ∀K J m own s ca cb cv,Sit G C lv K J m→Inv K J own C.L m s.heap→Owns G.w.params K σ own→VRel G.w.params K a ca→VRel G.w.params K b cb→VRel G.w.params K v cv→
  wpAny (model G.prog G.w) C.A (setItem ca cb cv) (PostR (fun _ (_:Unit) (_:Unit)=>True) G C.L m K J s fun _=>Q) (fun ev s'=>x∧Flown C s ev s') s
theorem Ex.setItem {o i value:Expr}{p pos:Pos}{Qn:List (Option AVal)→Own→Prop}{Qr:AVal→Own→Prop}
  (h:Ev G C lv σ value (fun v σ₁=>Ev G C lv σ₁ o (fun a σ₂=>Ev G C lv σ₂ i (fun b σ₃=>SetI G C lv σ₃ a b v (Qn lv) x) x) x) x)
  (hs:swapsWith value (some (.Subscript o i p)) pos.line C.env=pure false:=by rfl):Ex G C lv σ (exec (.Assign [.Subscript o i p] value pos) C.env) Qn Qr x:=fun K J m own s S I O=>by
 refine wpAny_Assign_Subscript (h.seq S I O (fun K₁ own₁ v σ₁ h₁ tk₁ cv k₁ I₁ O₁ r₁ S₁ q₁=>?_) fun _ _ f=>⟨f.1,.flown f.2⟩) hs
 refine q₁.seq (s:={s with heap:=h₁,toks:=tk₁}) S₁ I₁ O₁ (fun K₂ own₂ a σ₂ h₂ tk₂ ca k₂ I₂ O₂ r₂ S₂ q₂=>?_) fun ev s' f=>⟨f.1,.flown (f.2.start rfl)⟩
 refine q₂.seq (s:={s with heap:=h₂,toks:=tk₂}) S₂ I₂ O₂ (fun K₃ own₃ b σ₃ h₃ tk₃ cb k₃ I₃ O₃ r₃ S₃ q₃=>?_) fun ev s' f=>⟨f.1,.flown (Flown.start (h:=_) (tk:=_) rfl f.2)⟩
 refine wpAny_mono (q₃ K₃ J m own₃ {s with heap:=h₃,toks:=tk₃} ca cb cv S₃ I₃ O₃ (r₂.mono k₃) r₃ (r₁.mono fun a o z=>k₃ _ _ (k₂ _ _ z))) (fun _ s' p=>?_) fun ev s' f=>⟨f.1,.flown (Flown.start (h:=_) (tk:=_) rfl f.2)⟩
 obtain ⟨K',own',_,σ',h',tk',rfl,hk,I',O',_,q⟩:=p
 exact ⟨K',J,own',lv,σ',m,h',tk',rfl,fun a o z=>hk _ _ (k₃ _ _ (k₂ _ _ (k₁ _ _ z))),fun _ _ z _=>z,S₃.mono hk,I',O',.inl ⟨rfl,q⟩⟩
theorem VRels.set {P:Params}{K:Kept}{vs:List AVal}{cvs:List Value}(h:VRels P K vs cvs)(n:Nat){v:AVal}{cv:Value}(r:VRel P K v cv):VRels P K (vs.set n v) (cvs.set n cv):=by
 induction vs generalizing cvs n with
 |nil=>exact h.nilE .nil
 |cons w vs ih=>
  cases n with
  |zero=>exact h.consE fun _ _ _ b=> .cons r b
  |succ n=>exact h.consE fun _ _ a b=> .cons a (ih b n)
theorem Inv.mut1 {K J:Kept}{l1 l2:Led}{a:Addr}{o o':Obj}{L:Addr}{m:Str→Option Value}{h h':Heap}(I:Inv K J (l1++ [(a,o)]++l2) L m h)(hk: ∀b ob,b≠a→h.get? b=some ob→h'.get? b=some ob)(ho:h'.get? a=some o'):Inv K J (l1++ [(a,o')]++l2) L m h':=by
 rw [List.append_assoc] at I⊢
 exact I.mut hk ho
theorem SetI.list {vs:List AVal}{i:Int}{v:AVal}{a:Addr}{j:Nat}{Q:Own→Prop}(hj:σ[j]?=some (a,.list vs))(h0:0≤i)(hi:i<vs.length)(hfit:i<2^63)(h:Q (σ.set j (a,.list (vs.set i.toNat v)))):
  SetI G C lv σ (.ref a) (.int i) v Q x:=by
 intro K J m own s ca cb cv S I O ra rb rv
 refine rb.intE fun _=>ra.refE ?_
 revert I
 refine O.listE hj fun l1 l2 cvs n hr kk I=>?_
 ·have hlen:=hr.length
  refine ki_setAt (items:=cvs.toArray) (n:=n) (I.mem (List.mem_singleton_self _)) h0 hfit (by simp;exact lt_of_lt_of_eq hi (congrArg Nat.cast (id (Eq.symm hlen)))) ?_
  have u:=PySem.IsL.update (I.mem (List.mem_singleton_self _)) (·.setIfInBounds i.toNat cv)
  obtain ⟨n',hn'⟩: ∃n',(s.heap.update a (Obj.mapSeq (·.setIfInBounds i.toNat cv))).get? a=some (seqObj "list" (cvs.set i.toNat cv) n'):=⟨_,by simpa using u⟩
  have I2:=I.mut1 (fun b ob n e=>(Heap.get?_update_other _ _ (Ne.symm n)).trans e) hn'
  exact ⟨K,_,(),_,_,s.toks,rfl,fun _ _ e=>e,I2,kk K _ _ (fun _ _ e=>e) (.list (hr.set _ rv)),trivial,h⟩
theorem SetI.dS {kvs:List (Str×AVal)}{k:Str}{v:AVal}{a:Addr}{j:Nat}{Q:Own→Prop}(hj:σ[j]?=some (a,.dS kvs))(hn:(kvs.map (·.1)).Nodup)(hz:kvs.length≤16777216)(h:Q (σ.set j (a,.dS (put kvs k v)))):
  SetI G C lv σ (.ref a) (.str k) v Q x:=by
 intro K J m own s ca cb cv S I O ra rb rv
 refine rb.strE fun _=>ra.refE ?_
 revert I
 refine O.dSE hj fun l1 l2 _ _ hr hs kk I=>?_
 ·obtain ⟨cks,hd,p⟩:=hr.dictOf (I.mem (List.mem_singleton_self _)) hn
  have hlen:cks.length=kvs.length:=by simpa using congrArg List.length p.keys
  refine wpAny_setItem_pairs (isS k _) hd (fun h' hd' hs'=>?_) (by rw [sizeLine_eq];lia)
  obtain ⟨es',n',e',r'⟩:=ERelS.of_dictOf (p.put (k:=k) rv) hd'
  have I2:=I.mut1 (fun b ob n e=>(hs'.2 b n).trans e) e'
  exact ⟨K,_,(),_,_,_,rfl,fun _ _ e=>e,I2,kk K _ _ (fun _ _ e=>e) (.dS r' hs),trivial,h⟩
theorem SetI.dB {kvs:List (List UInt8×AVal)}{k:List UInt8}{v:AVal}{a:Addr}{j:Nat}{Q:Own→Prop}(hj:σ[j]?=some (a,.dB kvs))(hn:(kvs.map (·.1)).Nodup)(hz:kvs.length≤16777216)(h:Q (σ.set j (a,.dB (put kvs k v)))):
  SetI G C lv σ (.ref a) (.bytes k) v Q x:=by
 intro K J m own s ca cb cv S I O ra rb rv
 refine rb.bytesE fun _=>ra.refE ?_
 revert I
 refine O.dBE hj fun l1 l2 _ _ hr hs kk I=>?_
 ·obtain ⟨cks,hd,p⟩:=hr.dictOf (I.mem (List.mem_singleton_self _)) hn
  have hlen:cks.length=kvs.length:=by simpa using congrArg List.length p.keys
  refine wpAny_setItem_pairs (isB k _) hd (fun h' hd' hs'=>?_) (by rw [sizeLine_eq];lia)
  obtain ⟨es',n',e',r'⟩:=ERelB.of_dictOf (p.put (k:=k) rv) hd'
  have I2:=I.mut1 (fun b ob n e=>(hs'.2 b n).trans e) e'
  exact ⟨K,_,(),_,_,_,rfl,fun _ _ e=>e,I2,kk K _ _ (fun _ _ e=>e) (.dB r' hs),trivial,h⟩
theorem Ev.dictS {pos:Pos}(h: ∀a,Q (.ref a) (σ++ [(a,.dS [])])):Ev G C lv σ (.Dict [] [] pos) Q x:=fun K J m own s S I O=>by
 refine wpAny_Dict_empty ?_
 have I2:=I.ownEnd (o:=dictOf [] 0) (grow_push _ I.ns) (size_none _) (Heap.get?_push_size _ rfl)
 exact ⟨_,_,_,_,_,s.toks,rfl,fun _ _ e=>e,I2,O.append (by simpa using Owns.cons (OwnRel.dS .nil (sys_lt S I)) .nil),.ref _,h _⟩
theorem Ev.dictB {pos:Pos}(h: ∀a,Q (.ref a) (σ++ [(a,.dB [])])):Ev G C lv σ (.Dict [] [] pos) Q x:=fun K J m own s S I O=>by
 refine wpAny_Dict_empty ?_
 have I2:=I.ownEnd (o:=dictOf [] 0) (grow_push _ I.ns) (size_none _) (Heap.get?_push_size _ rfl)
 exact ⟨_,_,_,_,_,s.toks,rfl,fun _ _ e=>e,I2,O.append (by simpa using Owns.cons (OwnRel.dB .nil (sys_lt S I)) .nil),.ref _,h _⟩
inductive Fz :OObj→AVal→Prop where
 |list (vs:List AVal):Fz (.list vs) (.lst vs)
 |dS (kvs:List (Str×AVal)):Fz (.dS kvs) (.dS kvs)
 |dB (kvs:List (List UInt8×AVal)):Fz (.dB kvs) (.dB kvs)
 |rcd (vs:List AVal) (h:vs.length=5):Fz (.inst clsRecord (recNames.zip vs)) (.rcd vs)
theorem Owns.erase {P:Params}{K:Kept}{σ:Own}{own:Led}(h:Owns P K σ own){i:Nat}{a:Addr}{o:OObj}(e:σ[i]?=some (a,o)):
  ∃l1 l l2,own=l1++l++l2∧OwnRel P K o a l∧Owns P K (σ.eraseIdx i) (l1++l2):=by
 induction h generalizing i with
 |nil=>cases e
 | @cons _ _ l _ own h hs ih=>
  cases i with
  |zero=>
   cases e
   exact ⟨[],l,own,rfl,h,hs⟩
  |succ i=>
   obtain ⟨l1,l',l2,rfl,r,k⟩:=ih e
   refine ⟨l++l1,l',l2,?_,r,?_⟩
   ·rw [List.append_assoc l,List.append_assoc l]
   ·rw [List.append_assoc l];exact .cons h k
theorem Fz.rel {P:Params}{K:Kept}{o:OObj}{v:AVal}{a:Addr}{l:Led}(f:Fz o v)(r:OwnRel P K o a l):VRel P (fun a o=>K a o∨(a,o)∈l) v (.ref a):=by
 cases f with
 |list vs=>exact r.listE (M:=fun l=>VRel P (fun a o=>K a o∨(a,o)∈l) _ _) fun _ _ hv=> .lst (.inr (List.mem_singleton_self _)) (hv.mono fun _ _ e=> .inl e)
 |dS kvs=>exact r.dSE (M:=fun l=>VRel P (fun a o=>K a o∨(a,o)∈l) _ _) fun _ _ hv hs=> .dS (.inr (List.mem_singleton_self _)) (hv.mono fun _ _ e=> .inl e) hs
 |dB kvs=>exact r.dBE (M:=fun l=>VRel P (fun a o=>K a o∨(a,o)∈l) _ _) fun _ _ hv hs=> .dB (.inr (List.mem_singleton_self _)) (hv.mono fun _ _ e=> .inl e) hs
 |rcd vs h=>exact r.instE (M:=fun l=>VRel P (fun a o=>K a o∨(a,o)∈l) _ _) fun _ _ _ hv=> .rcd (.inr (.head _)) (.inr (.tail _ (.head _))) (hv.mono fun _ _ e=> .inl e) h
theorem Run.freeze {t:Sem Value}(h:Run (VRel G.w.params) G C lv σ t (fun v σ₁=>Q v σ₁∨ ∃a j o w,v= .ref a∧σ₁[j]?=some (a,o)∧Fz o w∧Q w (σ₁.eraseIdx j)) x):Run (VRel G.w.params) G C lv σ t Q x:=fun K J m own s S I O=>by
 refine wpAny_mono (h K J m own s S I O) (fun cv s' ⟨K',own',v,σ',h',tk',e,hk,I',O',r,q⟩=>?_) fun _ _ f=>f
 rcases q with q|⟨a,j,o,w,rfl,hj,f,q⟩
 ·exact ⟨K',own',v,σ',h',tk',e,hk,I',O',r,q⟩
 ·refine r.refE ?_
  obtain ⟨l1,l,l2,rfl,ro,O2⟩:=O'.erase hj
  exact ⟨_,_,w,_,h',tk',e,fun a o z=> .inl (hk _ _ z),I'.freeze,O2.mono fun _ _ z=> .inl z,f.rel ro,q⟩
theorem Ev.freeze {e:Expr}(h:Ev G C lv σ e (fun v σ₁=>Q v σ₁∨ ∃a j o w,v= .ref a∧σ₁[j]?=some (a,o)∧Fz o w∧Q w (σ₁.eraseIdx j)) x):Ev G C lv σ e Q x:=Run.freeze h
theorem Ev.nameFz {i:Nat}{y:Str}{k:NameKind}{a:Addr}{pos:Pos}(j:Nat){o:OObj}{w:AVal}(hn:C.env.scope.names[i]?=some (y,k))(hv:lv[i]?=some (some (.ref a)))(hj:σ[j]?=some (a,o))(f:Fz o w)(h:Q w (σ.eraseIdx j)):Ev G C lv σ (.Name y pos) Q x:=
 Ev.freeze (Ev.name hn hv (.inr ⟨a,j,o,w,rfl,hj,f,h⟩))
noncomputable def Meth (G:Gl)(C:Cx)(lv:List (Option AVal))(σ:Own)(ov:AVal)(name:Str)(f:Value):Prop:=
 ∀K J m own s ca (pl:Sem Bool) (Q:Value×List Value→Shared→Prop) (E:Value→Shared→Prop),Sit G C lv K J m→Inv K J own C.L m s.heap→Owns G.w.params K σ own→VRel G.w.params K ov ca→Q (f,[ca]) s→wpAny (model G.prog G.w) C.A (getMethod ca name pl) Q E s
theorem Ev.meth {o : Expr} {name : Str} {apos pos : Pos} {args : List Expr} {pl : Sem Bool} (f : Value)
  (h : Ev G C lv σ o (fun ov σ₁=>Meth G C lv σ₁ ov name f ∧ Keeps G f ∧ Args' G C lv σ₁ pos args (fun vs σ₂=>CallP G C lv σ₂ f (ov :: vs) Q x) x) x)
  (he : eval (.Call (.Attribute o name apos) args [] pos) C.env = (do
   let ov ← eval o C.env
   standAt apos.atName
   let (f,first) ← holding [ov] (getMethod ov name pl)
   callWith pos f first (backTo pos (starEach args C.env)) []) :=by rfl)
  (hplain : (backTo pos (starEach args C.env)).all (fun x=>!x.1) = true:=by rfl) : Ev G C lv σ (.Call (.Attribute o name apos) args [] pos) Q x:=fun K J m own s S I O=>by
 refine MethodCall_ (h.seq S I O (fun K₁ own₁ ov σ₁ h₁ tk₁ ca k₁ I₁ O₁ r₁ S₁ q₁=>?_) fun _ _ f=>f) he
 obtain ⟨q1,q2,q3⟩ :=q₁
 refine q1 K₁ J m own₁ {s with heap:=h₁,toks:=tk₁} ca pl _ _ S₁ I₁ O₁ r₁ ?_
 refine callWith_all q2 (q3.seq (s:={s with heap:=h₁,toks:=tk₁}) S₁ I₁ O₁ (fun K₂ own₂ vs σ₂ h₂ tk₂ cvs k₂ I₂ O₂ r₂ S₂ q₂=>?_) fun ev s' f=>⟨f.1,f.2.start rfl⟩) hplain
 refine ⟨S₂.glo.frag.keeps (S₂.fr I₂).keep,?_⟩
 exact wpAny_mono (q₂ K₂ J m own₂ {s with heap:=h₂,toks:=tk₂} (ca :: cvs) S₂ I₂ O₂ (.cons (r₁.mono k₂) r₂)) (fun cv s' p=>p.from fun a o z=>k₂ _ _ (k₁ _ _ z)) fun ev s' f=>⟨f.1,f.2.start rfl⟩
theorem Meth.append {a:Addr}{vs:List AVal}{j:Nat}(hj:σ[j]?=some (a,.list vs)):Meth G C lv σ (.ref a) "append" (.builtin "list.append"):=by
 intro K J m own s ca pl Q E S I O r h
 revert h
 refine r.refE fun h=>?_
 revert I
 exact O.listE hj fun _ _ _ _ _ _ I=>getMethod_list_append (I.mem (List.mem_singleton_self _)) rfl rfl h
theorem CallP.append {a:Addr}{vs:List AVal}{v:AVal}{j:Nat}(hj:σ[j]?=some (a,.list vs))(hz:vs.length≤16777216)(h:Q .none (σ.set j (a,.list (vs++ [v])))):CallP G C lv σ (.builtin "list.append") [.ref a,v] Q x:=by
 intro K J m own s cvs S I O r
 refine r.consE fun _ _ r rs=>rs.consE fun cv _ rv rs=>rs.nilE (r.refE ?_)
 revert I
 refine O.listE hj fun l1 l2 cvs n hr kk I=>?_
 have hlen:=hr.length
 refine wpAny_list_append_plain (items:=cvs.toArray) (hsz:=by rw [sizeLine_eq];simp;lia) ⟨n,I.mem (List.mem_singleton_self _)⟩ fun h9 hp9 hs9=>?_
 obtain ⟨n9,e9⟩:=hp9
 have e9':h9.get? a=some (seqObj "list" (cvs++ [cv]) n9):=by rw [e9];simp
 have I2:=I.mut1 (fun b ob n e=>(hs9.2 b n).trans e) e9'
 exact ⟨K,_,.none,_,_,_,rfl,fun _ _ e=>e,I2,kk K _ _ (fun _ _ e=>e) (.list (hr.snoc rv)),.none,h⟩
end
noncomputable def putA (kvs:List (Str×AVal))(k:Str)(v:AVal):List (Str×AVal):=match kvs with
 | []=> [(k,v)]
 |(k',v')::r=>if k'=k then (k',v)::r else (k',v')::putA r k v
section
variable {P:Params}{K:Kept}
theorem isStr_eq (k k':Str)(t:Tok):(Value.str k' t).isStr k=decide (k'=k):=by
 unfold Value.isStr
 by_cases h:k'=k<;>simp [h]
theorem ERelS.noRef {kvs:List (Str×AVal)}{es:List DictEntry}(h:ERelS P K kvs es):es.any (·.refKey)=false:=by
 induction kvs generalizing es with
 |nil=>exact h.nilE rfl
 |cons p r ih=>
  refine h.consE fun t c l _ hs=>?_
  rw [List.any_cons,ih hs];rfl
theorem ERelS.get {kvs:List (Str×AVal)}{es:List DictEntry}(h:ERelS P K kvs es)(k:Str):(at' kvs k=none∧es.find? (·.key.isStr k)=none)∨ ∃v e,at' kvs k=some v∧es.find? (·.key.isStr k)=some e∧VRel P K v e.val:=by
 unfold at'
 induction kvs generalizing es with
 |nil=>exact h.nilE (.inl ⟨rfl,rfl⟩)
 |cons p r ih=>
  refine h.consE fun t c l h hs=>?_
  rw [List.find?_cons,List.find?_cons,isStr_eq]
  by_cases e:p.1=k
  ·simp only [e,decide_true]
   exact .inr ⟨p.2,_,rfl,rfl,h⟩
  ·simp only [e,decide_false]
   exact ih hs
theorem ERelS.getL {kvs:List (Str×AVal)}{es:List DictEntry}(h:ERelS P K kvs es){k:Str}{v:AVal}(e:at' kvs k=some v): ∃cv,getL k es=some (some cv)∧VRel P K v cv:=by
 rcases h.get k with ⟨q,_⟩|⟨v',x,a,b,c⟩
 ·rw [e] at q;cases q
 ·rw [e] at a;cases a
  exact ⟨x.val,by unfold W.getL;rw [b],c⟩
theorem ERelS.getL_none {kvs:List (Str×AVal)}{es:List DictEntry}(h:ERelS P K kvs es){k:Str}(e:at' kvs k=none):W.getL k es=some none:=by
 rcases h.get k with ⟨_,q⟩|⟨v',x,a,b,c⟩
 ·unfold W.getL
  rw [q,h.noRef];rfl
 ·rw [e] at a;cases a
theorem ERelS.getL_some {kvs:List (Str×AVal)}{es:List DictEntry}(h:ERelS P K kvs es)(k:Str):(W.getL k es).isSome=true:=by
 unfold W.getL
 rw [h.noRef]
 cases es.find? (·.key.isStr k)<;>rfl
theorem ERelS.putL {k:Str}{t:Tok}{v:AVal}{cv:Value}(r:VRel P K v cv){kvs:List (Str×AVal)}{es:List DictEntry}(h:ERelS P K kvs es):ERelS P K (putA kvs k v) (W.putL k (PyData.keyHash P k) (.str k t) cv es):=by
 induction kvs generalizing es with
 |nil=>exact h.nilE (.cons r .nil)
 |cons p q ih=>
  refine h.consE fun t' c l h hs=>?_
  unfold putA W.putL
  rw [isStr_eq]
  by_cases e:p.1=k
  ·simp only [e,decide_true,if_true]
   exact .cons r hs
  ·simp only [e,decide_false,if_false,Bool.false_eq_true]
   exact .cons h (ih hs)
theorem ERelS.length {kvs:List (Str×AVal)}{es:List DictEntry}(h:ERelS P K kvs es):es.length=kvs.length:=by
 induction kvs generalizing es with
 |nil=>exact h.nilE rfl
 |cons p r ih=>exact h.consE fun _ _ _ _ hs=>congrArg (· +1) (ih hs)
noncomputable def okA :AVal→Bool
 | .cst v=>handedIn v
 |_=>true
theorem VRel.handed {v:AVal}{cv:Value}(h:VRel P K v cv)(e:okA v=true):handedIn cv=true:=by
 cases h<;>first|rfl|exact e
end
section
variable {G:Gl}{C:Cx}{lv:List (Option AVal)}{σ:Own}{Q:AVal→Own→Prop}{x:Prop}
noncomputable def Attr (G:Gl)(C:Cx)(lv:List (Option AVal))(σ:Own)(v:AVal)(name:Str)(Q:AVal→Own→Prop)(x:Prop):Prop:=
 ∀K J m own s ca,Sit G C lv K J m→Inv K J own C.L m s.heap→Owns G.w.params K σ own→VRel G.w.params K v ca→
  wpAny (model G.prog G.w) C.A (getAttr ca name true) (Post G C.L m K J s Q) (fun ev s'=>x∧Flown C s ev s') s
theorem Ev.attr {o:Expr}{name:Str}{pos:Pos}(h:Ev G C lv σ o (fun v σ₁=>Attr G C lv σ₁ v name Q x) x)
  (he:eval (.Attribute o name pos) C.env=(do
   let ov←eval o C.env
   standAt pos.atName
   let r←holding [ov] (getAttr ov name true)
   letTemporaryGo o ov r
   pure r):=by with_unfolding_all rfl):Ev G C lv σ (.Attribute o name pos) Q x:=fun K J m own s S I O=>by
 refine Attribute_any_ (h.seq S I O (fun K₁ own₁ v σ₁ h₁ tk₁ ca k₁ I₁ O₁ r₁ S₁ q₁=>?_) fun _ _ f=>f) he
 exact wpAny_mono (q₁ K₁ J m own₁ {s with heap:=h₁,toks:=tk₁} ca S₁ I₁ O₁ r₁) (fun cv s' p=>p.from k₁) fun ev s' f=>⟨f.1,f.2.start rfl⟩
theorem inst_at {h:Heap}{a d Cl:Addr}{es:List DictEntry}{n:Nat}(h1:h.get? a=some (instObj Cl d))(h2:h.get? d=some (dictOf es n)):InstAt h a (instObj Cl d) Cl (some (dictOf es n)):=⟨h1,rfl,rfl,h2⟩
structure FieldOk (K:Frag)(Cl:Addr)(name:Str):Prop where
 plain:plainGet K Cl name=true
 dict:hasDictIn K Cl=true
 cls:findIn K (.ref Cl) name=some none
theorem Attr.inst {a Cl:Addr}{kvs:List (Str×AVal)}{name:Str}{v:AVal}{j:Nat}(hj:σ[j]?=some (a,.inst Cl kvs))(f:FieldOk G.frag Cl name)(hv:at' kvs name=some v)(h:Q v σ)(ho:okA v=true:=by rfl):Attr G C lv σ (.ref a) name Q x:=by
 intro K J m own s ca S I O r
 refine r.refE ?_
 have O':=O
 revert I O
 refine O'.instE hj fun l1 l2 _ _ _ hr _ I O=>?_
 obtain ⟨cv,h1,h2⟩:=hr.getL hv
 exact get_own (S.fr I) S.glo.frag (inst_at (I.mem (.head _)) (I.mem (.tail _ (.head _)))) f.plain f.dict f.cls rfl h1 (h2.handed ho) ⟨K,_,_,σ,_,_,rfl,fun _ _ e=>e,I,O,h2,h⟩
theorem Attr.rcd {vs:List AVal}{name:Str}{v:AVal}(f:FieldOk G.frag clsRecord name)(hv:at' (recNames.zip vs) name=some v)(h:Q v σ)(ho:okA v=true:=by rfl):Attr G C lv σ (.rcd vs) name Q x:=by
 intro K J m own s ca S I O r
 refine r.rcdE fun _ _ _ _ hk hd hr hl=>?_
 obtain ⟨cv,h1,h2⟩:=hr.getL hv
 exact get_own (S.fr I) S.glo.frag (inst_at (I.k _ _ hk) (I.k _ _ hd)) f.plain f.dict f.cls rfl h1 (h2.handed ho) ⟨K,_,_,σ,_,_,rfl,fun _ _ e=>e,I,O,h2,h⟩
structure MethOk (K:Frag)(Cl:Addr)(name:Str)(f:Addr):Prop where
 plain:plainGet K Cl name=true
 cls:findIn K (.ref Cl) name=some (some (.ref f))
 fn:isFn K (.ref f)=true
theorem Meth.inst {a Cl f:Addr}{kvs:List (Str×AVal)}{name:Str}{j:Nat}(hj:σ[j]?=some (a,.inst Cl kvs))(mo:MethOk G.frag Cl name f)(hv:at' kvs name=none):Meth G C lv σ (.ref a) name (.ref f):=by
 intro K J m own s ca pl Q E S I O r h
 revert h
 refine r.refE fun h=>?_
 have O':=O
 revert I O
 refine O'.instE hj fun l1 l2 _ _ _ hr _ I O=>?_
 exact method_inst (S.fr I) S.glo.frag (inst_at (I.mem (.head _)) (I.mem (.tail _ (.head _)))) mo.plain mo.cls mo.fn (hr.getL_none hv) h
theorem Meth.rcd {f:Addr}{vs:List AVal}{name:Str}(mo:MethOk G.frag clsRecord name f)(hv:at' (recNames.zip vs) name=none):Meth G C lv σ (.rcd vs) name (.ref f):=by
 intro K J m own s ca pl Q E S I O r h
 revert h
 refine r.rcdE fun _ _ _ _ hk hd hr hl h=>?_
 exact method_inst (S.fr I) S.glo.frag (inst_at (I.k _ _ hk) (I.k _ _ hd)) mo.plain mo.cls mo.fn (hr.getL_none hv) h
theorem news_one {K J:Kept}{own:Led}{m:Str→Option Value}{h:Heap}{d:Addr}{o:Obj}(S:Sit G C lv K J m)(I:Inv K J own C.L m h)(hm:(d,o)∈own):News C.h₀ C.L h ((d,o)::(restOf C.h₀ C.L h).filter fun p=>p.1 !=d):=by
 intro p hp
 rcases List.mem_cons.mp hp with rfl|hp
 ·exact I.news S.keep _ hm
 ·exact news_rest p (List.mem_filter.mp hp).1
theorem one_back {K J:Kept}{own:Led}{m:Str→Option Value}{h h':Heap}{d:Addr}{o':Obj}(S:Sit G C lv K J m)(I:Inv K J own C.L m h)(hd:C.h₀.get? d=none)(F:Fr C.h₀ C.L h' m)(N:News C.h₀ C.L h' ((d,o')::(restOf C.h₀ C.L h).filter fun p=>p.1 !=d)):
  h'.get? d=some o'∧ ∀b ob,b≠d→b≠C.L→h.get? b=some ob→h'.get? b=some ob:=by
 refine ⟨(N _ (.head _)).1,fun b ob n nL e=>?_⟩
 cases q:C.h₀.get? b with
 |none=>exact (N (b,ob) (.tail _ (List.mem_filter.mpr ⟨mem_restOf.mpr ⟨e,q,nL⟩,by simpa using n⟩))).1
 |some o2=>
  have:=(S.fr I).keep _ _ q
  rw [e] at this
  cases this
  exact F.keep _ _ q
theorem Inv.mutL {K J:Kept}{l1 l2:Led}{a:Addr}{o o':Obj}{L:Addr}{m:Str→Option Value}{h h':Heap}(I:Inv K J (l1++(a,o)::l2) L m h)(hn:h'.Ns L m)(hk: ∀b ob,b≠a→b≠L→h.get? b=some ob→h'.get? b=some ob)(ho:h'.get? a=some o'):Inv K J (l1++(a,o')::l2) L m h':=by
 have aL:a≠L:=I.oL (a,o) (by simp)
 have nd:=I.nodup
 rw [List.map_append,List.map_cons] at nd
 have key: ∀p∈l1++(a,o')::l2,p=(a,o')∨(p∈l1++(a,o)::l2∧p.1≠a):=fun p hp=>by
  rw [List.mem_append,List.mem_cons] at hp
  rw [List.nodup_append] at nd
  obtain ⟨_,n2,n3⟩:=nd
  rw [List.nodup_cons] at n2
  rcases hp with hp|rfl|hp
  ·refine .inr ⟨List.mem_append_left _ hp,fun q=>?_⟩
   exact n3 p.1 (List.mem_map_of_mem hp) a (by simp) q
  ·exact .inl rfl
  ·refine .inr ⟨List.mem_append_right _ (List.mem_cons_of_mem _ hp),fun q=>n2.1 (by have z:p.1∈l2.map (·.1):=List.mem_map_of_mem hp;rw [q] at z;exact z)⟩
 refine ⟨fun b ob e=>hk b ob (fun q=>I.ok (a,o) (by simp) ob (q▸e)) (fun q=>I.kL ob (q▸e)) (I.k b ob e),fun b ob e=>hk b ob (fun q=>I.oj (a,o) (by simp) ob (q▸e)) (fun q=>I.jL ob (q▸e)) (I.j b ob e),fun p hp=>?_,by simpa using nd,fun p hp ob=>?_,fun p hp ob=>?_,I.kj,hn,I.kL,I.jL,fun p hp=>?_⟩
 ·rcases key p hp with rfl|⟨q,n⟩
  ·exact ho
  ·exact hk _ _ n (I.oL p q) (I.ow p q)
 ·rcases key p hp with rfl|⟨q,n⟩
  ·exact I.ok (a,o) (by simp) ob
  ·exact I.ok p q ob
 ·rcases key p hp with rfl|⟨q,n⟩
  ·exact I.oj (a,o) (by simp) ob
  ·exact I.oj p q ob
 ·rcases key p hp with rfl|⟨q,n⟩
  ·exact aL
  ·exact I.oL p q
structure SetOk (K:Frag)(Cl:Addr)(name:Str):Prop where
 setattr:findIn K (.ref Cl) "__setattr__"=some (some (.builtin "object.__setattr__"))
 plain:plainOver K Cl=true
 taker:takerIn K Cl name=some none
 dict:hasDictIn K Cl=true
theorem Sto.attr {Qn:List (Option AVal)→Own→Prop}{o:Expr}{name:Str}{p:Pos}{v:AVal}
  (h:Ev G C lv σ o (fun w σ₂=> ∃a Cl kvs j,w= .ref a∧σ₂[j]?=some (a,.inst Cl kvs)∧SetOk G.frag Cl name∧kvs.length≤900∧Qn lv (σ₂.set j (a,.inst Cl (putA kvs name v)))) x):
  Sto G C lv σ (fun cv=>PySem.assign (.Attribute o name p) C.env cv) v Qn x:=fun K J m own s cv S I O rv=>by
 show wpAny _ _ (PySem.assign (.Attribute o name p) C.env cv) _ _ _
 rw [assign_Attribute]
 refine wpAny_bind (wpAny_holding (h.seq S I O (fun K₂ own₂ w σ₂ h₂ tk₂ ca k₂ I₂ O₂ r₂ S₂ q₂=>?_) fun _ _ f=>⟨f.1,.flown f.2⟩))
 refine wpAny_bind (wpAny_standAt (wpAny_bind (wpAny_holding (wpAny_mono (Q:=fun _ s'=>PostS G C K J s (fun _ lv σ _=>Qn lv σ) () s') ?_ (fun _ s' p=>wpAny_release p) fun _ _ f=>f))))
 obtain ⟨a,Cl,kvs,j,rfl,hj,so,hz,q⟩:=q₂
 refine r₂.refE ?_
 revert I₂
 refine O₂.instE hj fun l1 l2 d es n hr kk I₂=>?_
 ·have hmem:(d,dictOf es n)∈l1++ [(a,instObj Cl d),(d,dictOf es n)]++l2:=by simp
  have N:=news_one S₂ I₂ hmem
  refine set_dict (S₂.fr I₂) S₂.glo.frag N (inst_at (I₂.mem (.head _)) (I₂.mem (.tail _ (.head _)))) rfl so.setattr so.plain so.taker so.dict (hr.getL_some name) rfl (Upd.head fun p hp=>by simpa using (List.mem_filter.mp hp).2) ?_ fun h' F' N'=>?_
  ·have e2:=(hr.putL (k:=name) (t:=tk₂+1) (rv.mono k₂)).length
   dsimp only at e2⊢
   rw [e2]
   have: ∀(l:List (Str×AVal)),(putA l name v).length≤l.length+1:=by
    intro l
    induction l with
    |nil=>simp [putA]
    |cons y r ih=>
     unfold putA
     split<;>simp
     exact ih
   have:=this kvs
   lia
  ·obtain ⟨b1,b2⟩:=one_back S₂ I₂ (I₂.news S₂.keep _ hmem).2.2 F' N'
   have e3:l1++ [(a,instObj Cl d),(d,dictOf es n)]++l2=(l1++ [(a,instObj Cl d)])++(d,dictOf es n)::l2:=by simp
   rw [e3] at I₂
   have I3:=I₂.mutL F'.ns b2 b1
   have O3:=kk K₂ (.inst Cl (putA kvs name v)) [(a,instObj Cl d),(d,dictOf (W.putL name (PyData.keyHash G.w.params name) (.str name (tk₂+1)) cv es) (putN name es n))] (fun _ _ z=>z) (.inst (hr.putL (rv.mono k₂)))
   refine ⟨K₂,J,_,lv,_,m,h',_,rfl,fun a o z=>k₂ _ _ z,fun _ _ z _=>z,S₂,I3,?_,q⟩
   simpa using O3
theorem Ex.setAttr {o value:Expr}{name:Str}{p pos:Pos}{Qn:List (Option AVal)→Own→Prop}{Qr:AVal→Own→Prop}
  (h:Ev G C lv σ value (fun v σ₁=>Ev G C lv σ₁ o (fun w σ₂=> ∃a Cl kvs j,w= .ref a∧σ₂[j]?=some (a,.inst Cl kvs)∧SetOk G.frag Cl name∧kvs.length≤900∧Qn lv (σ₂.set j (a,.inst Cl (putA kvs name v)))) x) x)
  (hs:swapsWith value (some (.Attribute o name p)) pos.line C.env=pure false:=by rfl):Ex G C lv σ (exec (.Assign [.Attribute o name p] value pos) C.env) Qn Qr x:=fun K J m own s S I O=>by
 rw [plainObj_exec_Assign_Attribute o name p value pos hs]
 refine wpAny_bind (wpAny_standAt (wpAny_bind ?_))
 refine h.seq S I O (fun K₁ own₁ v σ₁ h₁ tk₁ cv k₁ I₁ O₁ r₁ S₁ q₁=>?_) fun _ _ f=>⟨f.1,.flown f.2⟩
 refine wpAny_bind (wpAny_mono (Sto.attr (x:=x) q₁ K₁ J m own₁ {s with heap:=h₁,toks:=tk₁} cv S₁ I₁ O₁ r₁) (fun _ s' p=>?_) fun _ _ f=>⟨f.1,f.2.start rfl⟩)
 obtain ⟨K',J',own',lv',σ',m',h',tk',e,k,j,S',I',O',q⟩:=p
 exact wpAny_pure ⟨K',J',own',lv',σ',m',h',tk',e,fun a o z=>k _ _ (k₁ _ _ z),j,S',I',O',.inl ⟨rfl,q⟩⟩
end
section
variable {G:Gl}{C:Cx}{lv:List (Option AVal)}{σ:Own}{Q:AVal→Own→Prop}{x:Prop}
noncomputable def CodeC (G:Gl)(C:Cx)(lv:List (Option AVal))(σ:Own)(f:Addr)(vs:List AVal)(Q:AVal→Own→Prop)(x:Prop):Prop:=
 ∀K J m own s cvs (R:Result→Shared→Prop),Sit G C lv K J m→Inv K J own C.L m s.heap→Owns G.w.params K σ own→VRels G.w.params K vs cvs→
  (∀cv s',Post G C.L m K J s Q cv s'→R (.ok (.ret cv)) s')→(∀ev s',x∧Flown C s ev s'→R (.error ev) s')→codeAny (model G.prog G.w) C.A (.call (.ref f) ⟨cvs,[]⟩) R s
noncomputable abbrev Cx.at (C:Cx)(A:Around):Cx:={C with A:=A,rk:=C.rk - 1}
theorem Flown.at {A:Around}{s s₁:Shared}{h:Heap}{tk:Nat}{ev:Value}{s':Shared}(x:Flown (C.at A) s₁ ev s')(e:s₁={s with heap:=h,toks:=tk}):Flown C s ev s':=by
 subst e
 refine hideG fun M kM=>?_
 obtain ⟨e,t,vs,h',tk',g₂,m,h1,h2,h3,h4,h5⟩:=x
 refine kM ?_
 clear kM
 exact ⟨e,t,vs,h',tk',g₂,m,h1,h2,h3,h4,h5⟩
theorem Sit.at {K J:Kept}{m:Str→Option Value}{A:Around}(S:Sit G C lv K J m)(h:1≤C.rk)(hf:A.frames=C.A.frames)(hh:A.handled=C.A.handled)(hg:A.guards=C.A.guards)(hd:A.depth≤C.A.depth+4)(hu:A.units≤C.A.units+16):Sit G (C.at A) lv K J m:=
 {S with
  hA:=hf.trans S.hA
  hh:=hh.trans S.hh
  guards:=hg.trans S.guards
  depth:=(by have:=S.depth;show A.depth+4*(C.rk - 1)<recursionLimit;lia)
  units:=(by have:=S.units;show A.units+16*(C.rk - 1)+64<cLine;lia)}
theorem tc_under (A:Around)(Cl:Addr)(vals:List Value)(l:List Env)(hA:A.frames=some l):
  (A.under (.builtin "type.__call__" ⟨.ref Cl::vals,[]⟩)).frames=A.frames∧(A.under (.builtin "type.__call__" ⟨.ref Cl::vals,[]⟩)).handled=A.handled∧(A.under (.builtin "type.__call__" ⟨.ref Cl::vals,[]⟩)).guards=A.guards∧
  (A.under (.builtin "type.__call__" ⟨.ref Cl::vals,[]⟩)).depth≤A.depth+4∧(A.under (.builtin "type.__call__" ⟨.ref Cl::vals,[]⟩)).units≤A.units+16:=by
 refine ⟨?_,rfl,rfl,?_,?_⟩
 ·obtain ⟨hd,d,fr,gs,u⟩:=A
  dsimp only at hA
  subst hA
  rfl
 ·show A.depth+1≤A.depth+4
  lia
 ·show A.units+_≤A.units+16
  exact Nat.add_le_add_left (show 1+3*0≤16 by decide) _
structure MakeOk (K:Frag)(Cl fI:Addr):Prop where
 makes:makesIn K Cl=true
 init:findIn K (.ref Cl) "__init__"=some (some (.ref fI))
 fn:isFn K (.ref fI)=true
theorem Inv.made {Cl:Addr}{K J:Kept}{m:Str→Option Value}{own:Led}{s:Shared}{a dx:Addr}{h':Heap}(I:Inv K J own C.L m s.heap)(F:Fr C.h₀ C.L s.heap m)(F':Fr C.h₀ C.L h' m)(N':News C.h₀ C.L h' ((a,instObj Cl dx)::(dx,dictOf [] 0)::restOf C.h₀ C.L s.heap))
  (hlt: ∀p∈restOf C.h₀ C.L s.heap,p.1<dx) (hdx:dx<a):Inv K J (own++ [(a,instObj Cl dx),(dx,dictOf [] 0)]) C.L m h':=by
 have nx:s.heap.get? a=none:=by
  cases q:s.heap.get? a with
  |none=>rfl
  |some o=>
   have z:=N' (a,instObj Cl dx) (.head _)
   have:=hlt (a,o) (mem_restOf.mpr ⟨q,z.2.2,z.2.1⟩)
   exact absurd (Nat.lt_trans this hdx) (Nat.lt_irrefl _)
 have nd:s.heap.get? dx=none:=by
  cases q:s.heap.get? dx with
  |none=>rfl
  |some o=>
   have z:=N' (dx,dictOf [] 0) (.tail _ (.head _))
   exact absurd (hlt (dx,o) (mem_restOf.mpr ⟨q,z.2.2,z.2.1⟩)) (Nat.lt_irrefl _)
 have ha:=(N' _ (.head _)).1
 have hd:=(N' _ (.tail _ (.head _))).1
 have g:Grow C.L m s.heap h':=Grow.of_news F F' (l:=(a,instObj Cl dx)::(dx,dictOf [] 0)::restOf C.h₀ C.L s.heap) N' fun p hp=> .tail _ (.tail _ hp)
 have I1:=I.ownEnd g nx ha
 have I2:Inv K J (own++ [(a,instObj Cl dx),(dx,dictOf [] 0)]) C.L m h':=by
  have hne:dx≠a:=Nat.ne_of_lt hdx
  have nL:=(N' (dx,dictOf [] 0) (.tail _ (.head _))).2.1
  have key: ∀p∈own++ [(a,instObj Cl dx),(dx,dictOf [] 0)],p∈own++ [(a,instObj Cl dx)]∨p=(dx,dictOf [] 0):=fun p hp=>by
   simp only [List.mem_append,List.mem_cons,List.not_mem_nil,or_false] at hp⊢
   rcases hp with q|q|q
   ·exact .inl (.inl q)
   ·exact .inl (.inr q)
   ·exact .inr q
  refine {I1 with ow:=fun p hp=>?_,nodup:=?_,ok:=fun p hp o z=>?_,oj:=fun p hp o z=>?_,oL:=fun p hp=>?_}
  ·rcases key p hp with q|rfl
   ·exact I1.ow p q
   ·exact hd
  ·have n1:=I1.nodup
   have e:own++ [(a,instObj Cl dx),(dx,dictOf [] 0)]=(own++ [(a,instObj Cl dx)])++ [(dx,dictOf [] 0)]:=by simp
   rw [e,List.map_append,List.nodup_append]
   refine ⟨n1,by simp,fun b hb c hc q=>?_⟩
   simp only [List.map_cons,List.map_nil,List.mem_singleton] at hc
   rw [hc] at q
   obtain ⟨p,hp,hp2⟩:=List.mem_map.mp hb
   rw [q] at hp2
   rcases List.mem_append.mp hp with z|z
   ·have:=I.ow p z
    rw [hp2,nd] at this;cases this
   ·rw [List.mem_singleton] at z
    subst z
    exact hne hp2.symm
  ·rcases key p hp with q|rfl
   ·exact I1.ok p q o z
   ·have:=I.k _ _ z
    rw [nd] at this;cases this
  ·rcases key p hp with q|rfl
   ·exact I1.oj p q o z
   ·have:=I.j _ _ z
    rw [nd] at this;cases this
  ·rcases key p hp with q|rfl
   ·exact I1.oL p q
   ·exact nL
 exact I2
theorem Owns.made {Cl a dx:Addr}{K:Kept}{own:Led}(O:Owns G.w.params K σ own):Owns G.w.params K (σ++ [(a,.inst Cl [])]) (own++ [(a,instObj Cl dx),(dx,dictOf [] 0)]):=O.append (by simpa using Owns.cons (OwnRel.inst (d:=dx) (C:=Cl) (n:=0) (P:=G.w.params) (K:=K) (a:=a) .nil) .nil)
theorem CallP.make {Cl fI : Addr} {vs : List AVal} (mo : MakeOk G.frag Cl fI) (hrk : 1 ≤ C.rk)
  (h : ∀ a A,CodeC G (C.at A) lv (σ ++ [(a,.inst Cl [])]) fI (.ref a :: vs) (fun v σ₂=>v = .none ∧ Q (.ref a) σ₂) x) : CallP G C lv σ (.ref Cl) vs Q x:=by
 intro K J m own s cvs S I O r
 have F:=S.fr I
 refine call_cls (news:=restOf C.h₀ C.L s.heap) F S.glo.frag news_rest mo.makes mo.init mo.fn fun a dx h' F' N' hlt hdx=>?_
 refine hideG fun M kM=>?_
 obtain ⟨u1,u2,ug,u3,u4⟩ :=tc_under C.A Cl cvs _ S.hA
 refine kM ?_
 clear kM
 refine h a _ K J m _ {s with heap:=h'} (.ref a :: cvs) _ (S.at hrk u1 u2 ug u3 u4) (I.made F F' N' hlt hdx) O.made (.cons (.ref a) r) (fun cv s' p=>?_) fun ev s' f=>?_
 ·obtain ⟨K',own',v,σ',h2,tk2,rfl,hk,I',O',r',rfl,q⟩ :=p
  refine r'.noneE ?_
  exact ⟨rfl,K',own',_,σ',h2,tk2,rfl,hk,I',O',.ref a,q⟩
 ·exact ⟨f.1,f.2.at rfl⟩
end
section
variable {G:Gl}{C:Cx}{lv:List (Option AVal)}{σ:Own}{Q:AVal→Own→Prop}{x:Prop}
theorem CallP.lenB {b:List UInt8}(h:Q (.int b.length) σ)(hb:b.length≤1099511627776):CallP G C lv σ (.builtin "len") [.bytes b] Q x:=by
 intro K J m own s cvs S I O r
 refine r.oneE fun _ r1=>?_
 refine r1.bytesE fun t=>?_
 exact KBw.len_K (by rfl) (by simpa [KBw.bInts] using hb) ⟨K,own,_,σ,s.heap,_,rfl,fun _ _ e=>e,I,O,by rw [show (KBw.bInts b.toArray).length=b.length by simp [KBw.bInts]];exact .int _ _,h⟩
theorem CallP.lenL {vs:List AVal}(h:Q (.int vs.length) σ)(hb:vs.length≤1099511627776):CallP G C lv σ (.builtin "len") [.lst vs] Q x:=by
 intro K J m own s cvs S I O r
 refine r.oneE fun _ r1=>?_
 refine r1.lstE fun _ _ _ hk hr=>?_
 have hlen:=hr.length
 refine call_len_list (seq_list (I.k _ _ hk)) (by simp;lia) ⟨K,own,_,σ,s.heap,_,rfl,fun _ _ e=>e,I,O,?_,h⟩
 rw [List.size_toArray,hlen];exact .int _ _
theorem CallP.lenO {a:Addr}{j:Nat}{vs:List AVal}(hj:σ[j]?=some (a,.list vs))(h:Q (.int vs.length) σ)(hb:vs.length≤1099511627776):CallP G C lv σ (.builtin "len") [.ref a] Q x:=by
 intro K J m own s cvs S I O r
 refine r.oneE fun _ r1=>?_
 refine r1.refE ?_
 have O':=O
 revert I O
 refine O'.listE hj fun l1 l2 _ _ hr _ I O=>?_
 have hlen:=hr.length
 refine call_len_list (seq_list (I.mem (List.mem_singleton_self _))) (by simp;lia) ⟨K,_,_,σ,s.heap,_,rfl,fun _ _ e=>e,I,O,?_,h⟩
 rw [List.size_toArray,hlen];exact .int _ _
theorem CallP.lenD {kvs:List (Str×AVal)}(hn:(kvs.map (·.1)).Nodup)(h:Q (.int kvs.length) σ)(hb:kvs.length≤1099511627776):CallP G C lv σ (.builtin "len") [.dS kvs] Q x:=by
 intro K J m own s cvs S I O r
 refine r.oneE fun _ r1=>?_
 refine r1.dSE fun _ _ _ hk hr hs=>?_
 obtain ⟨cks,hd,p⟩:=hr.dictOf (I.k _ _ hk) hn
 have hlen:cks.length=kvs.length:=by simpa using congrArg List.length p.keys
 refine call_len_dict (beq_eq_false_iff_ne.mpr hs) hd (by lia) ⟨K,own,_,σ,s.heap,_,rfl,fun _ _ e=>e,I,O,?_,h⟩
 rw [hlen];exact .int _ _
theorem CallP.lenS {y:Str}(h:Q (.int y.length) σ)(hb:y.length≤1099511627776):CallP G C lv σ (.builtin "len") [.str y] Q x:=by
 intro K J m own s cvs S I O r
 refine r.oneE fun _ r1=>?_
 refine r1.strE fun t=>?_
 exact PyProof.Rows.len_str (by lia) ⟨K,own,_,σ,s.heap,_,rfl,fun _ _ e=>e,I,O,.int _ _,h⟩
theorem fits_long {a:Int}(h1: -(2^62)≤a)(h2:a≤2^62):Builtin.Range.rangeFitsLong a=true:=by
 unfold Builtin.Range.rangeFitsLong
 simp only [Bool.and_eq_true,decide_eq_true_eq]
 lia
theorem CallP.range1 {n:Int}(h:Q (.rng 0 1 n.toNat) σ)(h1: -(2^60)≤n)(h2:n≤2^60):CallP G C lv σ (.type "range") [.int n] Q x:=by
 intro K J m own s cvs S I O r
 refine r.oneE fun _ r1=>?_
 refine r1.intE fun t=>?_
 have I2:=I.add (o:=rangeObj 0 n 1 s.toks t (s.toks+1)) (grow_push _ I.ns) (size_none _) (Heap.get?_push_size _ rfl)
 have e:Builtin.Range.rangeSize 0 n 1=n.toNat:=by rw [rangeSize_one];split<;>lia
 refine call_range_1 ⟨_,own,_,σ,_,_,rfl,Kept.sub,I2,O.mono Kept.sub,.rng Kept.new ?_ e,h⟩
 unfold Builtin.Range.small
 rw [e]
 simp only [Bool.and_eq_true,Bool.or_eq_true]
 exact ⟨⟨⟨⟨fits_long (by exact Int.neg_ofNat_le_ofNat (2^62) 0) (by exact Int.pow_nonneg_of_even rfl),fits_long (by lia) (by lia)⟩,fits_long (by exact Int.neg_ofNat_le_ofNat (2^62) 1) (by exact Int.le.intro_sub (2^62 - Nat.succ 0) rfl)⟩,fits_long (by exact Int.neg_ofNat_le_natCast (2^62) n.toNat) (by lia)⟩,.inr (by simpa using fits_long (a:=n) (by lia) (by lia))⟩
theorem CallP.range2 {a n:Int}(h:Q (.rng a 1 (n - a).toNat) σ)(h0: -(2^60)≤a)(h0':a≤2^60)(h1: -(2^60)≤n)(h2:n≤2^60):CallP G C lv σ (.type "range") [.int a,.int n] Q x:=by
 intro K J m own s cvs S I O r
 refine r.twoE fun _ _ r1 r2=>?_
 refine r1.intE fun t=>?_
 refine r2.intE fun u=>?_
 have I2:=I.add (o:=rangeObj a n 1 t u s.toks) (grow_push _ I.ns) (size_none _) (Heap.get?_push_size _ rfl)
 have e:Builtin.Range.rangeSize a n 1=(n - a).toNat:=by rw [rangeSize_one];split<;>lia
 refine call_range_2 ⟨_,own,_,σ,_,_,rfl,Kept.sub,I2,O.mono Kept.sub,.rng Kept.new ?_ e,h⟩
 unfold Builtin.Range.small
 rw [e]
 simp only [Bool.and_eq_true,Bool.or_eq_true]
 exact ⟨⟨⟨⟨fits_long (by lia) (by lia),fits_long (by lia) (by lia)⟩,fits_long (by exact Int.neg_ofNat_le_ofNat (2^62) 1) (by exact Int.le.intro_sub (2^62 - Nat.succ 0) rfl)⟩,fits_long (by exact Int.neg_ofNat_le_natCast (2^62) (n - a).toNat) (by lia)⟩,.inr (by simpa using fits_long (a:=n) (by lia) (by lia))⟩
theorem CallP.range3 {a n c:Int}(k:Nat)(h:Q (.rng a c k) σ)(hk:Builtin.Range.rangeSize a n c=k)(h0: -(2^60)≤a)(h0':a≤2^60)(h1: -(2^60)≤n)(h2:n≤2^60)(hc:c≠0)(hc1: -1000≤c)(hc2:c≤1000)(hk2:k≤2^60):CallP G C lv σ (.type "range") [.int a,.int n,.int c] Q x:=by
 intro K J m own s cvs S I O r
 refine r.threeE fun _ _ _ r1 r2 r3=>?_
 refine r1.intE fun t=>?_
 refine r2.intE fun u=>?_
 refine r3.intE fun v=>?_
 have I2:=I.add (o:=rangeObj a n c t u v) (grow_push _ I.ns) (size_none _) (Heap.get?_push_size _ rfl)
 refine call_range_3 hc ⟨_,own,_,σ,_,_,rfl,Kept.sub,I2,O.mono Kept.sub,.rng Kept.new ?_ hk,h⟩ (.inl (PyProof.noPylong_small (by lia)))
 unfold Builtin.Range.small
 rw [hk]
 simp only [Bool.and_eq_true,Bool.or_eq_true]
 refine ⟨⟨⟨⟨fits_long (by lia) (by lia),fits_long (by lia) (by lia)⟩,fits_long (by lia) (by lia)⟩,fits_long (by exact Int.neg_ofNat_le_natCast (2^62) k) (by lia)⟩,.inr ?_⟩
 split
 ·exact fits_long (by lia) (by lia)
 ·exact fits_long (by lia) (by lia)
theorem CallP.abs {a:Int}(h:Q (.int (if a<0 then -a else a)) σ):CallP G C lv σ (.builtin "abs") [.int a] Q x:=by
 intro K J m own s cvs S I O r
 refine r.oneE fun _ r1=>?_
 refine r1.intE fun t=>?_
 exact call_abs_int fun u tk=>⟨K,own,_,σ,s.heap,_,rfl,fun _ _ e=>e,I,O,.int _ _,h⟩
theorem CallP.ord {y:Str}(h1:y.length=1)(h:Q (.int (y.cps.getD 0 0:Nat)) σ):CallP G C lv σ (.builtin "ord") [.str y] Q x:=by
 intro K J m own s cvs S I O r
 refine r.oneE fun _ r1=>?_
 refine r1.strE fun t=>?_
 exact ord_of_one h1 ⟨K,own,_,σ,s.heap,_,rfl,fun _ _ e=>e,I,O,.int _ _,h⟩
theorem CallP.chr {i:Int}(h0:0≤i)(h1:i≤1114111)(h:Q (.str ⟨#[i.toNat]⟩) σ):CallP G C lv σ (.builtin "chr") [.int i] Q x:=by
 intro K J m own s cvs S I O r
 refine r.oneE fun _ r1=>?_
 refine r1.intE fun t=>?_
 exact chr_of_range h0 h1 ⟨K,own,_,σ,s.heap,_,rfl,fun _ _ e=>e,I,O,.str _ _,h⟩
end
theorem land_low (a c:Nat)(h:c<256):(a*256)&&&c=0:=by
 apply Nat.eq_of_testBit_eq
 intro i
 rw [Nat.testBit_and,Nat.zero_testBit]
 by_cases hi:8≤i
 ·have:c.testBit i=false:=Nat.testBit_lt_two_pow (Nat.lt_of_lt_of_le h (Nat.pow_le_pow_right (by decide) hi:2^8≤2^i))
  rw [this,Bool.and_false]
 ·have:(a*2^8).testBit i=false:=by
   rw [Nat.mul_comm,Nat.testBit_two_pow_mul]
   simp;exact fun a_1=>Eq.symm ((fun {a b}=>Bool.not_eq_not.mp) fun a=>hi a_1)
  rw [show a*256=a*2^8 from rfl,this,Bool.false_and]
theorem bitOr_low {a c:Int}(ha:0≤a)(h0:0≤c)(h1:c<256):Builtin.bitOr (a*256) c=a*256+c:=by
 have e1:=bitXor_and (a*256) c
 have e2:Builtin.bitXor (a*256) c=Builtin.bitOr (a*256) c - Builtin.bitAnd (a*256) c:=rfl
 have e3:Builtin.bitAnd (a*256) c=0:=by
  obtain ⟨n,rfl⟩:=Int.eq_ofNat_of_zero_le ha
  obtain ⟨k,rfl⟩:=Int.eq_ofNat_of_zero_le h0
  unfold Builtin.bitAnd
  rw [decide_eq_true (show (0:Int)≤(n:Int)*256 by lia),decide_eq_true h0]
  dsimp only
  have:((n:Int)*256).toNat=n*256:=rfl
  rw [this,show ((k:Int)).toNat=k from rfl,land_low n k (by lia)]
  rfl
 lia
section
variable {G:Gl}{C:Cx}{lv:List (Option AVal)}{σ:Own}{x:Prop}{Qn:List (Option AVal)→Own→Prop}{Qr:AVal→Own→Prop}
theorem Sto.name {y:Str}{p:Pos}{v:AVal}(i:Nat){k:NameKind}(hn:C.env.scope.names[i]?=some (y,k))
  (hk:C.env.kindOf y=some .local∧C.env.locals=C.L∨(C.env.kindOf y=some .cell∧ ∃c,C.env.cells.lookup y=some c∧C.env.locals=C.L))
  (h:Qn (lv.set i (some v)) σ) (hd:(y==("__debug__":Str))=false:=by decide):Sto G C lv σ (fun cv=>PySem.assign (.Name y p) C.env cv) v Qn x:=fun K J m own s cv S I O r=>
 wpAny_assign_Name (Sto.bind hn hk hd h K J m own s cv S I O r)
noncomputable def Stos (G:Gl)(C:Cx)(lv:List (Option AVal))(σ:Own)(ts:List Expr)(vs:List AVal)(Qn:List (Option AVal)→Own→Prop)(x:Prop):Prop:=
 ∀K J m own s cvs,Sit G C lv K J m→Inv K J own C.L m s.heap→Owns G.w.params K σ own→VRels G.w.params K vs cvs→
  wpAny (model G.prog G.w) C.A (assignInOrder (ts.map fun t=>PySem.assign t C.env) cvs) (PostS G C K J s fun _ lv σ _=>Qn lv σ) (fun ev s'=>x∧Thrown C s ev s') s
theorem Stos.nil (h:Qn lv σ):Stos G C lv σ [] [] Qn x:=fun K J m own s cvs S I O r=>by
 refine r.nilE ?_
 exact wpAny_pure ⟨K,J,own,lv,σ,m,s.heap,s.toks,rfl,fun _ _ e=>e,fun _ _ e _=>e,S,I,O,h⟩
theorem Stos.cons {t:Expr}{ts:List Expr}{v:AVal}{vs:List AVal}(h:Sto G C lv σ (fun cv=>PySem.assign t C.env cv) v (fun lv' σ'=>Stos G C lv' σ' ts vs Qn x) x):Stos G C lv σ (t::ts) (v::vs) Qn x:=fun K J m own s cvs S I O r=>by
 refine r.consE fun _ _ r rs=>?_
 ·rw [List.map_cons]
  unfold assignInOrder
  refine wpAny_bind (wpAny_holding (wpAny_mono (h K J m own s _ S I O r) (fun _ s' p=>?_) fun _ _ f=>f))
  obtain ⟨K',J',own',lv',σ',m',h',tk',rfl,hk,hj,S',I',O',q⟩:=p
  refine wpAny_mono (q K' J' m' own' {s with heap:=h',toks:=tk'} _ S' I' O' (rs.mono hk)) (fun _ s' p=>p.from hk hj) fun _ _ f=>⟨f.1,f.2.start rfl⟩
theorem Sto.tuple {elts:List Expr}{x1:Nat}{tp:Pos}{vs:List AVal}(hl:elts.length=vs.length)(h:Stos G C lv σ elts vs Qn x)
  (he:assignEach elts C.env=elts.map fun t=>(false,PySem.assign t C.env):=by rfl):Sto G C lv σ (fun cv=>PySem.assign (.Tuple elts x1 tp) C.env cv) (.tup vs) Qn x:=fun K J m own s cv S I O r=>by
 refine r.tupE fun a cvs n hk hv=>?_
 have hlen:=hv.length
 refine wpAny_assign_Tuple S.hh (seq_tuple (I.k _ _ hk)) (by rw [he];simp;lia) (by rw [he];simp [List.findIdx?_eq_none_iff]) fun h' hx=>?_
 have n0:=size_none s.heap
 have g:Grow C.L m s.heap h':=⟨fun b o _ e=>hx b o (fun q=>by rw [q,n0] at e;cases e) e,I.ns.at' fun o e=>hx _ o (fun q=>by rw [q,n0] at e;cases e) e⟩
 have e2:(assignEach elts C.env).map (·.2)=elts.map fun t=>PySem.assign t C.env:=by rw [he];simp
 rw [e2]
 refine wpAny_mono (h K J m own {s with heap:=h'} cvs S (I.grow g) O hv) (fun _ s' p=>?_) fun _ _ f=>⟨f.1,Thrown.start (h:=h') (tk:=s.toks) rfl f.2⟩
 exact PostS.from (h₁:=h') (tk₁:=s.toks) (fun _ _ e=>e) (fun _ _ e _=>e) p
theorem Ex.assignT {elts:List Expr}{x1:Nat}{tp pos:Pos}{e:Expr}
  (h:Ev G C lv σ e (fun v σ₁=>Sto G C lv σ₁ (fun cv=>PySem.assign (.Tuple elts x1 tp) C.env cv) v Qn x) x)
  (hs:swapsWithSole [.Tuple elts x1 tp] e pos.line C.env=pure false:=by rfl)
  (hw:swappedStores [.Tuple elts x1 tp] e C.env=pure none:=by rfl):Ex G C lv σ (exec (.Assign [.Tuple elts x1 tp] e pos) C.env) Qn Qr x:=fun K J m own s S I O=>by
 refine Assign_Tuple (h.seq S I O (fun K₁ own₁ v σ₁ h₁ tk₁ cv k₁ I₁ O₁ r₁ S₁ q₁=>?_) fun _ _ f=>⟨f.1,.flown f.2⟩) hs hw
 refine wpAny_mono (q₁ K₁ J m own₁ {s with heap:=h₁,toks:=tk₁} cv S₁ I₁ O₁ r₁) (fun _ s' p=>?_) fun _ _ f=>⟨f.1,f.2.start rfl⟩
 obtain ⟨K',J',own',lv',σ',m',h',tk',e,k,j,S',I',O',q⟩:=p
 exact ⟨K',J',own',lv',σ',m',h',tk',e,fun a o z=>k _ _ (k₁ _ _ z),j,S',I',O',.inl ⟨rfl,q⟩⟩
end
section
variable {G:Gl}{C:Cx}{lv:List (Option AVal)}{σ:Own}{Q:AVal→Own→Prop}{x:Prop}
theorem Ev.neg {e:Expr}{pos:Pos}(h:Ev G C lv σ e (fun v σ₁=> ∃i,v= .int i∧Q (.int (-i)) σ₁) x):Ev G C lv σ (.UnaryOp .USub e pos) Q x:=fun K J m own s S I O=>by
 refine wpAny_UnaryOp (h.seq S I O (fun K₁ own₁ v σ₁ h₁ tk₁ cv k₁ I₁ O₁ r₁ S₁ q₁=>?_) fun _ _ f=>f)
 obtain ⟨i,rfl,q⟩:=q₁
 refine r₁.intE fun _=>?_
 exact PySem.P.neg_int ⟨K₁,own₁,_,σ₁,h₁,_,rfl,k₁,I₁,O₁,.int _ _,q⟩
theorem VRels.ints {P:Params}{K:Kept}{ns:List Int}{cvs:List Value}(h:VRels P K (ns.map .int) cvs):IntsAre cvs ns:=by
 induction ns generalizing cvs with
 |nil=>exact h.nilE .nil
 |cons n r ih=>exact h.consE fun _ _ a b=>a.intE fun _=> .cons n _ (ih b)
theorem CallP.bytesL {ns:List Int}(hr: ∀n∈ns,0≤n∧n<256)(hz:ns.length≤16777216)(h:Q (.bytes (ns.map fun n=>n.toNat.toUInt8)) σ):CallP G C lv σ (.type "bytes") [.lst (ns.map .int)] Q x:=by
 intro K J m own s cvs S I O r
 refine r.oneE fun _ r1=>?_
 refine r1.lstE fun _ _ _ hk hv=>?_
 have hi:=hv.ints
 refine call_bytes_ints (seq_list (I.k _ _ hk)) hi hr (by rw [hi.length,sizeLine_eq];exact hz) S.hh fun h' t k hkeep=>?_
 have g:Grow C.L m s.heap h':=⟨fun b o _ e=>hkeep b o e,I.ns.keeps hkeep⟩
 exact ⟨K,own,_,σ,h',k,rfl,fun _ _ e=>e,I.grow g,O,.bytes _ t,h⟩
end
noncomputable def decodes (c:Code):Bool:=match c with
 | .builtin id _=>Builtin.Bytes.decodersThatHold.contains id
 |_=>false
noncomputable def Clean (Γ:Ctx):Prop:=decodes Γ.code=false∧ ∀y∈Γ.below,decodes y.1=false
noncomputable def wpN {α:Type}(M:Model)(A:Around)(t:Sem α)(Q:α→Shared→Prop)(E:Value→Shared→Prop)(s:Shared):Prop:=
 ∀Γ p,Γ.In A→Clean Γ→Sem.wp M Γ t (fun a _ s'=>Q a s') (fun e _ s'=>E e s') p s
noncomputable def codeN (M:Model)(A:Around)(c:Code)(R:Result→Shared→Prop)(s:Shared):Prop:=
 ∀Γ p,Γ.code=c→Γ.Below A→Clean Γ→wpCode M Γ R p s
section
variable {α β:Type}{M:Model}{A:Around}{E:Value→Shared→Prop}{s:Shared}
theorem wpN.of {t:Sem α}{Q:α→Shared→Prop}(h:wpAny M A t Q E s):wpN M A t Q E s:=fun Γ p hΓ _=>h Γ p hΓ
theorem wpN.mono {t:Sem α}{Q Q':α→Shared→Prop}{E':Value→Shared→Prop}(h:wpN M A t Q E s)(hQ: ∀a s,Q a s→Q' a s)(hE: ∀e s,E e s→E' e s):wpN M A t Q' E' s:=
 fun Γ p hΓ hc=>Sem.wp_mono M Γ t (fun a _ s=>hQ a s) (fun e _ s=>hE e s) p s (h Γ p hΓ hc)
theorem wpN.pure {a:α}{Q:α→Shared→Prop}(h:Q a s):wpN M A (Pure.pure a) Q E s:=fun _ _ _ _=>h
theorem wpN.bind {m:Sem α}{f:α→Sem β}{Q:β→Shared→Prop}(h:wpN M A m (fun a s'=>wpN M A (f a) Q E s') E s):wpN M A (m>>=f) Q E s:=fun Γ p hΓ hc=>by
 rw [Sem.wp_bind']
 exact Sem.wp_mono M Γ m (fun a p' s' h'=>h' Γ p' hΓ hc) (fun _ _ _ h'=>h') p s (h Γ p hΓ hc)
theorem wpN.seq {m:Sem α}{f:α→Sem β}{Q:β→Shared→Prop}(h:wpAny M A m (fun a s'=>wpN M A (f a) Q E s') E s):wpN M A (m>>=f) Q E s:= .bind (.of h)
theorem wpN.holding {vs:List Value}{m:Sem α}{Q:α→Shared→Prop}(h:wpN M A m Q E s):wpN M A (PySem.holding vs m) Q E s:=fun Γ p hΓ hc=>by
 rw [Sem.wp_holding];exact h Γ p hΓ hc
theorem wpN.onRaise {m:Sem α}{k:Value→Sem Unit}{Q:α→Shared→Prop}(h:wpN M A m Q (fun e s'=>wpN M A (k e) (fun _ s''=>E e s'') E s') s):wpN M A (m.onRaise k) Q E s:=fun Γ p hΓ hc=>by
 rw [Sem.wp_onRaise]
 exact Sem.wp_mono M Γ m (fun _ _ _ h'=>h') (fun e p' s' h'=>h' Γ p' hΓ hc) p s (h Γ p hΓ hc)
theorem Clean.enter {Γ:Ctx}(h:Clean Γ){c:Code}(hd:Option Value)(p:Pos)(hc:decodes c=false):Clean (Γ.enter c hd p):=
 ⟨hc,fun y hy=>by
  rcases List.mem_cons.mp hy with rfl|hy
  ·exact h.1
  ·exact h.2 y hy⟩
theorem Clean.goto {Γ:Ctx}(h:Clean Γ){c:Code}(hc:decodes c=false):Clean (Γ.goto c):=⟨hc,h.2⟩
theorem wpN.run {c:Code}{h:Option Value}{Q:Flow→Shared→Prop}(hd:decodes c=false)
  (hc:codeN M (A.mark h) c (fun r s'=>match r with| .ok f=>Q f s'| .error e=>E e s') s) (hnb:h≠some byPass:=by intro x;cases x):wpN M A (PySem.run c h) Q E s:=
 fun Γ p hΓ hcl=>by rw [Sem.wp_run];exact hc _ p rfl (hΓ.enter c h p hnb) (hcl.enter _ p hd)
theorem wpN.runValue {c:Code}{Q:Value→Shared→Prop}(hd:decodes c=false)
  (hc:codeN M A c (fun r s'=>match r with| .ok (.ret v)=>Q v s'| .ok _=>False| .error e=>E e s') s):wpN M A (PySem.runValue c) Q E s:=fun Γ p hΓ hcl=>by
 rw [Sem.wp_runValue];exact hc _ p rfl (hΓ.enter c none p (by intro x;cases x)) (hcl.enter _ p hd)
theorem wpN.call {f:Value}{pos:List Value}{kw:List (Str×Value)}{Q:Value→Shared→Prop}
 (hc:codeN M A (.call f ⟨pos,kw⟩) (fun r s'=>match r with| .ok (.ret v)=>Q v s'| .ok _=>False| .error e=>E e s') s):wpN M A (PySem.call f pos kw) Q E s:= .runValue rfl hc
theorem codeN.mono {c:Code}{R R':Result→Shared→Prop}(h:codeN M A c R s)(hR: ∀r s,R r s→R' r s):codeN M A c R' s:=fun Γ p hc hΓ hcl=>wpCode_mono hR (h Γ p hc hΓ hcl)
theorem codeN.tree {c:Code}{R:Result→Shared→Prop}
  (h:wpN M (A.under c) (M.den c) (fun fin s'=>match fin with| .done f=>R (.ok f) s'| .again c'=>c'.quiet=true∧decodes c'=false∧codeN M A c' R s')
   (fun e s'=>R (.error e) s') s):codeN M A c R s:=fun Γ p hc hΓ hcl=>by
 rw [wpCode_iff_wp,hc]
 refine Sem.wp_mono M Γ _ (fun fin p' s' h'=>?_) (fun _ _ _ h'=>h') p s (h Γ p (hc▸hΓ.in) hcl)
 cases fin with
 |done f=>exact h'
 |again c'=>exact ⟨h'.1,h'.2.2 (Γ.goto c') p' rfl (hΓ.goto c') (hcl.goto h'.2.1)⟩
theorem codeN.loop {c:Code}{R:Result→Shared→Prop}(hq:c.quiet=true)(hd:decodes c=false)(I:Nat→Shared→Prop)
  (turn: ∀n s,I n s→wpN M (A.under c) (M.den c) (fun fin s'=>match fin with
    | .done f=>R (.ok f) s'
    | .again c'=>(c'=c∧ ∃m,m<n∧I m s')∨(c'.quiet=true∧decodes c'=false∧codeN M A c' R s')) (fun e s'=>R (.error e) s') s)
  (n:Nat) (h:I n s):codeN M A c R s:=by
 induction n using Nat.strongRecOn generalizing s with
 |ind n ih=>
  refine codeN.tree ((turn n s h).mono (fun fin s' hf=>?_) fun _ _ h'=>h')
  cases fin with
  |done f=>exact hf
  |again c'=>
   rcases hf with ⟨rfl,m,hm,hI⟩|hf
   ·exact ⟨hq,hd,ih m hm hI⟩
   ·exact hf
end
section
variable {prog:Program}{w:World}{A:Around}{E:Value→Shared→Prop}{R:Result→Shared→Prop}{s:Shared}{env:Env}
theorem wpN.execsCons {st:Stmt}{rest:List Stmt}{Q:Flow→Shared→Prop}
  (h:wpN (model prog w) A (exec st env) (fun f s'=>match f with| .next=>wpN (model prog w) A (execs rest env) Q E s'|f=>Q f s') E s):wpN (model prog w) A (execs (st::rest) env) Q E s:=by
 rw [execs_cons]
 refine .bind (h.mono (fun f s' h'=>?_) fun _ _ e=>e)
 cases f<;>first|exact h'|exact .pure h'
theorem wpN.exprStmt {e:Expr}{pos:Pos}{Q:Flow→Shared→Prop}(h:wpN (model prog w) A (eval e env) (fun _=>Q .next) E s)
  (hi:interactive env=false:=by rfl) (hs:swapsWith e none pos.line env=Pure.pure false:=by rfl):wpN (model prog w) A (exec (.Expr e pos) env) Q E s:=by
 rw [exec_Expr env e pos hi hs]
 exact .seq (wpAny_standAt (.bind (h.mono (fun v s' h'=> .of (wpAny_dropValue h')) fun _ _ e=>e)))
theorem wpN.assignName {y:Str}{p:Pos}{value:Expr}{pos:Pos}{Q:Flow→Shared→Prop}
  (h:wpN (model prog w) A (eval value env) (fun v s₁=>wpAny (model prog w) A (storeName env y v) (fun _=>Q .next) E s₁) E s)
  (hs:swapsWith value (some (.Name y p)) pos.line env=Pure.pure false:=by rfl):wpN (model prog w) A (exec (.Assign [.Name y p] value pos) env) Q E s:=by
 intro Γ q hΓ hc
 simp only [exec_Assign_Name env y p value pos hs,Sem.wp_bind',Sem.wp_cmd_standAt,Sem.wp_bindName,Sem.wp_pure']
 exact Sem.wp_mono _ Γ _ (fun v _ s₁ h₁=>h₁ Γ _ hΓ) (fun _ _ _ h'=>h') _ _ (h Γ _ hΓ hc)
theorem wpN.returnSome {e:Expr}{pos:Pos}{Q:Flow→Shared→Prop}(h:wpN (model prog w) A (eval e env) (fun v=>Q (.ret v)) E s):wpN (model prog w) A (exec (.Return (some e) pos) env) Q E s:=by
 rw [exec_Return_some]
 exact .seq (wpAny_standAt (.bind (h.mono (fun v s' h'=> .pure h') fun _ _ e=>e)))
theorem wpN.ifStmt {test:Expr}{body orelse:List Stmt}{pos:Pos}{Q:Flow→Shared→Prop}
  (h:wpN (model prog w) A (isTrue test env (eval test env)) (fun b s₂=>if b then wpN (model prog w) A (execs body env) Q E s₂ else wpN (model prog w) A (execs orelse env) Q E s₂) E s):
  wpN (model prog w) A (exec (.If test body orelse pos) env) Q E s:=by
 rw [exec_If]
 refine .seq (wpAny_standAt (.bind (h.mono (fun b s' h'=>?_) fun _ _ e=>e)))
 cases b<;>exact h'
theorem codeN.func {body:List Stmt}{env:Env}
  (h:wpN (model prog w) (A.deeper env) (execs body env) (fun f s'=>R (.ok (.ret (match f with| .ret v=>v|_=> .none))) s')
   (fun e s'=>wpAny (model prog w) (A.deeper env) (leaving env e) (fun _ s''=>R (.error e) s'') (fun e' s''=>R (.error e') s'') s') s):codeN (model prog w) A (.func body env) R s:=by
 refine codeN.tree ?_
 show wpN _ (A.deeper env) (do point;match←(execs body env).onRaise (leaving env) with| .ret v=>ret v|_=>ret .none) _ _ s
 refine .seq (wpAny_point (.bind (.onRaise (h.mono (fun f s' h'=>?_) fun _ _ h'=> .of h'))))
 cases f<;>exact .pure h'
end
section
variable {prog:Program}{w:World}{A:Around}{E:Value→Shared→Prop}{R:Result→Shared→Prop}{s:Shared}{env:Env}
theorem codeN.callFunction {a:Addr}{args:Args}{o:Obj}{fd:FuncData}{body:List Stmt}(hroom:A.depth<recursionLimit)(ho:s.heap.get? a=some o)
  (hd':o.data= .func fd) (hco:fd.scope.isCoroutine=false) (hgen:fd.scope.isGenerator=false) (hbody:fd.body= .stmts body) (hcd:s.heap.CodeRec fd.code fd.qualname)
  (h:wpAny (model prog w) A.in1 (bindArgs fd args) (fun binds s₁=>
   wpAny (model prog w) A.in1 (newFunctionEnv fd.scope fd.globals fd.closure binds (fd.qualname++ ".<locals>.") (some a) fd.code none fd.builtins)
    (fun env s₂=>s₂.heap.NoLimit∧codeN (model prog w) A (.func body env) R s₂) (fun e s'=>R (.error e) s') s₁) (fun e s'=>R (.error e) s') s):
  codeN (model prog w) A (.call (.ref a) args) R s:=by
 refine codeN.tree ?_
 show wpN _ A.in1 (callAny (.ref a) args) _ _ s
 unfold callAny
 refine .seq (wpAny_load ho ?_)
 refine hideG fun M kM=>?_
 obtain ⟨c,oc,vs,tq,hc,hoc,hdc,hq⟩:=hcd
 refine kM ?_
 clear kM
 refine rwG hd' ?_
 show wpN _ _ (PySem.callFunction a fd args) _ _ _
 unfold PySem.callFunction
 refine rwG hco ?_;refine rwG hgen ?_;refine rwG hbody ?_;refine rwG hc ?_
 rw [hc] at h
 show wpN _ A.in1 (field (.ref c) 1>>=_) _ _ _
 refine .seq (m:=field (.ref c) 1) (wpAny_field hoc hdc hq (.seq (wpAny_pure ?_)))
 refine .seq (wpAny_mono h (fun binds s₁ h₁=>?_) fun _ _ e=>e)
 refine .seq (wpAny_mono h₁ (fun env s₂ h₂=>?_) fun _ _ e=>e)
 exact .seq (wpAny_enterFrame h₂.1 hroom (.pure ⟨rfl,rfl,h₂.2⟩))
theorem wpN.noted {α:Type}{M:Model}{m:Sem α}{Q:α→Shared→Prop}(h:wpN M A m Q (notedBy M A env E) s):wpN M A (m.onRaise fun x=>do noteFrame x env;theTreesLotGoes x) Q E s:=
 .onRaise (h.mono (fun _ _ q=>q) fun _ _ hx=> .of (wpAny_bind (wpAny_mono hx (fun _ _ e=>wpAny_theTreesLotGoes e) fun _ _ e=>e)))
theorem codeN.block {stmts:List Stmt}(h:wpN (model prog w) A (execs stmts env) (fun f s'=>R (.ok f) s') (notedBy (model prog w) A env fun e s'=>R (.error e) s') s):codeN (model prog w) A (.block stmts env) R s:=by
 refine codeN.tree ?_
 show wpN _ _ (do return Fin.done (←(execs stmts env).onRaise (fun x=>do noteFrame x env;theTreesLotGoes x))) _ _ s
 exact .bind (.noted (h.mono (fun f s' h'=> .pure h') fun _ _ e=>e))
theorem codeN.forLoop {target:Expr}{it:Value}{body orelse:List Stmt}(I:Nat→Shared→Prop)
  (turn: ∀n s,I n s→wpAny (model prog w) A (pyNext it) (fun r s₁=>match r with
   |none=>wpN (model prog w) A (execs orelse env) (fun f s₃=>R (.ok f) s₃) (notedBy (model prog w) A env fun e s'=>R (.error e) s') s₁
   |some v=>wpAny (model prog w) A (letOwnedTupleGo target it v) (fun _ s₁'=>
    wpAny (model prog w) A (PySem.assign target env v) (fun _ s₂=>wpN (model prog w) A (execs body env) (fun f s₃=>match f with
     | .next| .cont=> ∃m,m<n∧I m s₃
     | .brk=>R (.ok .next) s₃
     | .ret v=>R (.ok (.ret v)) s₃) (notedBy (model prog w) A env fun e s'=>R (.error e) s') s₂) (notedBy (model prog w) A env fun e s'=>R (.error e) s') s₁') (notedBy (model prog w) A env fun e s'=>R (.error e) s') s₁) (notedBy (model prog w) A env fun e s'=>R (.error e) s') s)
  (n:Nat) (h:I n s):codeN (model prog w) A (.forLoop target it body orelse env) R s:=by
 refine codeN.loop rfl rfl I (fun n s hI=>?_) n h
 show wpN _ A ((forTurn target it body orelse env).onRaise (fun x=>do noteFrame x env;theTreesLotGoes x)) _ _ s
 refine .noted ?_
 unfold forTurn
 refine .seq (wpAny_standAt (.bind (.onRaise (.of (wpAny_mono (turn n s hI) (fun r s₁ h₁=>?_) fun _ _ h'=> .of (wpAny_standAt h'))))))
 cases r with
 |none=>exact .pure (.inr ⟨rfl,rfl,codeN.block h₁⟩)
 |some v=>
  refine .seq (wpAny_mono h₁ (fun _ s₁' h₁'=>?_) fun _ _ h'=>h')
  refine .seq (wpAny_mono h₁' (fun _ s₂ h₂=> .bind (h₂.mono (fun f s₃ h₃=>?_) fun _ _ h'=>h')) fun _ _ h'=>h')
  cases f with
  |next=>exact .pure (.inl ⟨rfl,h₃⟩)
  |cont=>exact .pure (.inl ⟨rfl,h₃⟩)
  |brk=>exact .pure h₃
  |ret v=>exact .pure h₃
theorem wpN.forStmt {target iter:Expr}{body orelse:List Stmt}{pos:Pos}{Q:Flow→Shared→Prop}
  (h:wpAny (model prog w) A (eval iter env) (fun x s₁=>wpAny (model prog w) A (pyIter x) (fun it s₂=>
   codeN (model prog w) A (.forLoop target it body orelse env) (fun r s'=>match r with| .ok f=>Q f s'| .error e=>cameBackBy (model prog w) A env E e s') s₂) E s₁) E s)
  (hs: ∀x,foldedSetIterable iter env x=Pure.pure x:=by intro _;rfl):wpN (model prog w) A (exec (.For target iter body orelse pos) env) Q E s:=by
 refine rwG (exec_For ..) ?_
 refine .seq (wpAny_standAt (.seq (wpAny_mono h (fun x s₁ h₁=>?_) fun _ _ e=>e)))
 refine .seq (wpAny_of_eq (hs x) (.seq (wpAny_standAt (.seq (wpAny_holding (wpAny_mono h₁ (fun it s₂ h₂=>?_) fun _ _ e=>e))))))
 unfold runOwn
 exact .onRaise (.run rfl (codeN.mono h₂ fun r s' z=>by
  cases r with
  |ok f=>exact z
  |error e=>exact .of z))
theorem wpN.callWith {M:Model}{pos:Pos}{f:Value}{first:List Value}{args:List (Bool×Sem Value)}{Q:Value→Shared→Prop}{P:Heap→Prop}(hp:args.all (fun x=>!x.1)=true)
  (hk: ∀h,P h→ ∃k,(k=Keeper.frame∨k=Keeper.machine∨k=Keeper.boundFrame)∧Looks M h (keeperOf f) k)
  (h:wpN M A (spliced args) (fun vs s₁=>P s₁.heap∧wpN M A (PySem.call f (first++vs)) Q E s₁) E s):wpN M A (callWith pos f first args []) Q E s:=by
 have hany:args.any (·.1)=false:=by
  rw [List.all_eq_true] at hp
  cases q:args.any (·.1) with
  |false=>rfl
  |true=>
   obtain ⟨y,hy,e⟩:=List.any_eq_true.mp q
   have:=hp y hy
   rw [e] at this;cases this
 have ev:wpN M A (evalArgs f true args []) (fun a s₁=>P s₁.heap∧wpN M A (PySem.call f (first++a.pos) a.kw) Q E s₁) E s:=by
  cases args with
  |nil=>
   unfold evalArgs
   show wpN M A (spliced []>>=_) _ E s
   refine .bind (h.mono (fun vs s' h'=>?_) fun _ _ e=>e)
   refine .holding ?_
   exact .bind (.pure (.bind (.pure (.pure h'))))
  |cons y r=>
   obtain ⟨b,t⟩:=y
   have hb:b=false:=by simpa using (List.all_eq_true.mp hp) (b,t) List.mem_cons_self
   subst hb
   unfold evalArgs
   show wpN M A (spliced ((false,t)::r)>>=_) _ E s
   refine .bind (h.mono (fun vs s' h'=>?_) fun _ _ e=>e)
   refine .holding ?_
   exact .bind (.pure (.bind (.pure (.pure h'))))
 unfold PySem.callWith
 refine .bind (.holding (ev.mono (fun a s₁ h₁=> .seq (wpAny_standAt ?_)) fun _ _ e=>e))
 obtain ⟨hP,hc⟩:=h₁
 obtain ⟨k,hk',L⟩:=hk _ hP
 refine rwG hany ?_
 refine .seq (L.here ?_)
 have tail: ∀{t:Sem Value},wpN M A t Q E s₁→wpN M A (t>>=fun r=>PySem.holding [r] point>>=fun _=>Pure.pure r) Q E s₁:=
  fun ht=> .bind (ht.mono (fun r s₂ hr=> .seq (wpAny_holding (wpAny_point (.pure hr)))) fun _ _ e=>e)
 have marked (mk:Value):wpN M A (callMarked mk f (first++a.pos) a.kw) Q E s₁:=by
  unfold callMarked
  exact fun Γ p hΓ hcl=>by rw [Sem.wp_keep];exact hc Γ p hΓ hcl
 have long: ∀mk,wpN M A (if args.length+2*([]:List (Option Str×Sem Value)).length>30 then PySem.call f (first++a.pos) a.kw>>=fun r=>PySem.holding [r] point>>=fun _=>Pure.pure r else callMarked mk f (first++a.pos) a.kw>>=fun r=>PySem.holding [r] point>>=fun _=>Pure.pure r) Q E s₁:=fun mk=>by
  by_cases q:args.length+2*([]:List (Option Str×Sem Value)).length>30
  ·refine rwG (if_pos q) ?_;exact tail hc
  ·refine rwG (if_neg q) ?_;exact tail (marked _)
 rcases hk' with rfl|rfl|rfl
 ·exact long plainCall
 ·exact tail hc
 ·exact long callOfAMethodObject
end
noncomputable def RunN {α β:Type}(rel:Kept→β→α→Prop)(G:Gl)(C:Cx)(lv:List (Option AVal))(σ:Own)(t:Sem α)(Q:β→Own→Prop)(x:Prop):Prop:=
 ∀K J m own s,Sit G C lv K J m→Inv K J own C.L m s.heap→Owns G.w.params K σ own→
  wpN (model G.prog G.w) C.A t (PostR rel G C.L m K J s Q) (fun ev s'=>x∧Flown C s ev s') s
noncomputable abbrev EvN (G:Gl)(C:Cx)(lv:List (Option AVal))(σ:Own)(e:Expr)(Q:AVal→Own→Prop)(x:Prop):Prop:=RunN (VRel G.w.params) G C lv σ (eval e C.env) Q x
noncomputable def RunSN {α:Type}(G:Gl)(C:Cx)(lv:List (Option AVal))(σ:Own)(t:Sem α)(F:Kept→List (Option AVal)→Own→α→Prop)(x:Prop):Prop:=
 ∀K J m own s,Sit G C lv K J m→Inv K J own C.L m s.heap→Owns G.w.params K σ own→
  wpN (model G.prog G.w) C.A t (PostS G C K J s F) (fun ev s'=>x∧Thrown C s ev s') s
noncomputable abbrev ExN (G:Gl)(C:Cx)(lv:List (Option AVal))(σ:Own)(t:Sem Flow)(Qn:List (Option AVal)→Own→Prop)(Qr:AVal→Own→Prop)(x:Prop):Prop:=RunSN G C lv σ t (FlowF G Qn Qr) x
noncomputable abbrev ArgsN (G:Gl)(C:Cx)(lv:List (Option AVal))(σ:Own)(pos:Pos)(es:List Expr)(Q:List AVal→Own→Prop)(x:Prop):Prop:=RunN (VRels G.w.params) G C lv σ (spliced (backTo pos (starEach es C.env))) Q x
noncomputable def CallN (G:Gl)(C:Cx)(lv:List (Option AVal))(σ:Own)(f:Value)(vs:List AVal)(Q:AVal→Own→Prop)(x:Prop):Prop:=
 ∀K J m own s cvs,Sit G C lv K J m→Inv K J own C.L m s.heap→Owns G.w.params K σ own→VRels G.w.params K vs cvs→
  wpN (model G.prog G.w) C.A (call f cvs) (Post G C.L m K J s Q) (fun ev s'=>x∧Flown C s ev s') s
section
variable {α β:Type}{rel:Kept→β→α→Prop}{G:Gl}{C:Cx}{lv:List (Option AVal)}{σ:Own}{x:Prop}
theorem RunN.of {t:Sem α}{Q:β→Own→Prop}(h:Run rel G C lv σ t Q x):RunN rel G C lv σ t Q x:=fun K J m own s S I O=> .of (h K J m own s S I O)
theorem RunSN.of {t:Sem α}{F:Kept→List (Option AVal)→Own→α→Prop}(h:RunS G C lv σ t F x):RunSN G C lv σ t F x:=fun K J m own s S I O=> .of (h K J m own s S I O)
theorem CallN.of {f:Value}{vs:List AVal}{Q:AVal→Own→Prop}(h:CallP G C lv σ f vs Q x):CallN G C lv σ f vs Q x:=fun K J m own s cvs S I O r=> .of (h K J m own s cvs S I O r)
theorem RunN.seq {t:Sem α}{Q:β→Own→Prop}(h:RunN rel G C lv σ t Q x)
  {K J:Kept}{m:Str→Option Value}{own:Led}{s:Shared}(S:Sit G C lv K J m) (I:Inv K J own C.L m s.heap) (O:Owns G.w.params K σ own) {QQ:α→Shared→Prop}{E:Value→Shared→Prop}
  (k: ∀K' own' b σ' h' tk' a,(∀a o,K a o→K' a o)→Inv K' J own' C.L m h'→Owns G.w.params K' σ' own'→rel K' b a→Sit G C lv K' J m→Q b σ'→QQ a {s with heap:=h',toks:=tk'})
  (kE: ∀ev s',x∧Flown C s ev s'→E ev s'):wpN (model G.prog G.w) C.A t QQ E s:=
 (h K J m own s S I O).mono (fun cv s' ⟨K',own',v,σ',h',tk',e,hk,I',O',r,q⟩=>e▸k K' own' v σ' h' tk' cv hk I' O' r (S.mono hk) q) fun ev s' f=>kE ev s' f
theorem RunSN.seq {t:Sem α}{F:Kept→List (Option AVal)→Own→α→Prop}(h:RunSN G C lv σ t F x)
  {K J:Kept}{m:Str→Option Value}{own:Led}{s:Shared}(S:Sit G C lv K J m) (I:Inv K J own C.L m s.heap) (O:Owns G.w.params K σ own) {QQ:α→Shared→Prop}{E:Value→Shared→Prop}
  (k: ∀K' J' own' lv' σ' m' h' tk' a,(∀a o,K a o→K' a o)→(∀a o,J a o→a∉C.cells→J' a o)→Sit G C lv' K' J' m'→Inv K' J' own' C.L m' h'→Owns G.w.params K' σ' own'→F K' lv' σ' a→QQ a {s with heap:=h',toks:=tk'})
  (kE: ∀ev s',x∧Thrown C s ev s'→E ev s'):wpN (model G.prog G.w) C.A t QQ E s:=
 (h K J m own s S I O).mono (fun a s' ⟨K',J',own',lv',σ',m',h',tk',e,hk,hj,S',I',O',q⟩=>e▸k K' J' own' lv' σ' m' h' tk' a hk hj S' I' O' q) fun ev s' f=>kE ev s' f
theorem RunSN.last {t:Sem α}{F:Kept→List (Option AVal)→Own→α→Prop}{lv₁:List (Option AVal)}{σ₁:Own}(h:RunSN G C lv₁ σ₁ t F x){K K₁ J J₁:Kept}{m:Str→Option Value}{own₁:Led}{s:Shared}{h₁:Heap}{tk₁:Nat}
  (S:Sit G C lv₁ K₁ J₁ m) (I:Inv K₁ J₁ own₁ C.L m h₁) (O:Owns G.w.params K₁ σ₁ own₁) (hk: ∀a o,K a o→K₁ a o) (hj: ∀a o,J a o→a∉C.cells→J₁ a o):
  wpN (model G.prog G.w) C.A t (PostS G C K J s F) (fun ev s'=>x∧Thrown C s ev s') {s with heap:=h₁,toks:=tk₁}:=
 (h K₁ J₁ m own₁ {s with heap:=h₁,toks:=tk₁} S I O).mono (fun _ _ p=>p.from hk hj) fun _ _ ⟨a,f⟩=>⟨a,f.start rfl⟩
end
section
variable {G:Gl}{C:Cx}{lv:List (Option AVal)}{σ:Own}{x:Prop}{Q:AVal→Own→Prop}{Qn:List (Option AVal)→Own→Prop}{Qr:AVal→Own→Prop}
theorem ExN.cons {st:Stmt}{rest:List Stmt}(h:ExN G C lv σ (exec st C.env) (fun lv₁ σ₁=>ExN G C lv₁ σ₁ (execs rest C.env) Qn Qr x) Qr x):ExN G C lv σ (execs (st::rest) C.env) Qn Qr x:=fun K J m own s S I O=>by
 refine wpN.execsCons (h.seq S I O (fun K₁ J₁ own₁ lv₁ σ₁ m₁ h₁ tk₁ f k₁ j₁ S₁ I₁ O₁ q₁=>?_) fun _ _ f=>f)
 rcases q₁ with ⟨rfl,q⟩|⟨cv,v,rfl,r,q⟩
 ·exact q.last S₁ I₁ O₁ k₁ j₁
 ·exact ⟨K₁,J₁,own₁,lv₁,σ₁,m₁,h₁,tk₁,rfl,k₁,j₁,S₁,I₁,O₁,.inr ⟨cv,v,rfl,r,q⟩⟩
theorem ExN.step {st:Stmt}{rest:List Stmt}(h:Ex G C lv σ (exec st C.env) (fun lv₁ σ₁=>ExN G C lv₁ σ₁ (execs rest C.env) Qn Qr x) Qr x):ExN G C lv σ (execs (st::rest) C.env) Qn Qr x:= .cons (RunSN.of h)
theorem ExN.nil (h:Qn lv σ):ExN G C lv σ (execs [] C.env) Qn Qr x:= .of (Ex.nil h)
theorem ExN.ret {e:Expr}{pos:Pos}(h:EvN G C lv σ e Qr x):ExN G C lv σ (exec (.Return (some e) pos) C.env) Qn Qr x:=fun K J m own s S I O=>
 wpN.returnSome (h.seq S I O (fun K₁ own₁ v σ₁ h₁ tk₁ cv k₁ I₁ O₁ r₁ S₁ q₁=>⟨K₁,J,own₁,lv,σ₁,m,h₁,tk₁,rfl,k₁,fun _ _ e _=>e,S₁,I₁,O₁,.inr ⟨cv,v,rfl,r₁,q₁⟩⟩) fun _ _ f=>⟨f.1,.flown f.2⟩)
theorem ExN.ite {c:Expr}{a b:List Stmt}{pos:Pos}(h:Tst G C lv σ c (fun bb σ₁=>if bb then ExN G C lv σ₁ (execs a C.env) Qn Qr x else ExN G C lv σ₁ (execs b C.env) Qn Qr x) x):ExN G C lv σ (exec (.If c a b pos) C.env) Qn Qr x:=fun K J m own s S I O=>by
 refine wpN.ifStmt (.of (h.seq S I O (fun K₁ own₁ bb σ₁ h₁ tk₁ a k₁ I₁ O₁ r₁ S₁ q₁=>?_) fun _ _ f=>⟨f.1,.flown f.2⟩))
 subst r₁
 cases a
 ·exact RunSN.last q₁ S₁ I₁ O₁ k₁ fun _ _ e _=>e
 ·exact RunSN.last q₁ S₁ I₁ O₁ k₁ fun _ _ e _=>e
theorem ExN.expr {e:Expr}{pos:Pos}(h:EvN G C lv σ e (fun _ σ₁=>Qn lv σ₁) x)(hi:interactive C.env=false:=by rfl)(hs:swapsWith e none pos.line C.env=pure false:=by rfl):ExN G C lv σ (exec (.Expr e pos) C.env) Qn Qr x:=fun K J m own s S I O=>
 wpN.exprStmt (h.seq S I O (fun K₁ own₁ v σ₁ h₁ tk₁ cv k₁ I₁ O₁ r₁ S₁ q₁=>⟨K₁,J,own₁,lv,σ₁,m,h₁,tk₁,rfl,k₁,fun _ _ e _=>e,S₁,I₁,O₁,.inl ⟨rfl,q₁⟩⟩) fun _ _ f=>⟨f.1,.flown f.2⟩) hi hs
theorem ExN.assign {y:Str}{p pos:Pos}{e:Expr}(i:Nat){k:NameKind}(hn:C.env.scope.names[i]?=some (y,k))
  (hk:C.env.kindOf y=some .local∧C.env.locals=C.L∨(C.env.kindOf y=some .cell∧ ∃c,C.env.cells.lookup y=some c∧C.env.locals=C.L))
  (h:EvN G C lv σ e (fun v σ₁=>Qn (lv.set i (some v)) σ₁) x) (hs:swapsWith e (some (.Name y p)) pos.line C.env=pure false:=by rfl) (hd:(y==("__debug__":Str))=false:=by decide):
  ExN G C lv σ (exec (.Assign [.Name y p] e pos) C.env) Qn Qr x:=fun K J m own s S I O=>by
 refine wpN.assignName (h.seq S I O (fun K₁ own₁ v σ₁ h₁ tk₁ cv k₁ I₁ O₁ r₁ S₁ q₁=>?_) fun _ _ f=>⟨f.1,.flown f.2⟩) hs
 refine wpAny_mono (Sto.bind (x:=x) hn hk hd q₁ K₁ J m own₁ {s with heap:=h₁,toks:=tk₁} cv S₁ I₁ O₁ r₁) (fun _ s' p=>?_) fun _ _ f=>⟨f.1,f.2.start rfl⟩
 refine hideG fun M kM=>?_
 obtain ⟨K',J',own',lv',σ',m',h',tk',e,k,j,S',I',O',q⟩:=p
 refine kM ?_
 clear kM
 exact ⟨K',J',own',lv',σ',m',h',tk',e,fun a o z=>k _ _ (k₁ _ _ z),j,S',I',O',.inl ⟨rfl,q⟩⟩
theorem ArgsN.cons {pos:Pos}{e:Expr}{es:List Expr}{Q:List AVal→Own→Prop}(h:EvN G C lv σ e (fun v σ₁=>ArgsN G C lv σ₁ pos es (fun vs=>Q (v::vs)) x) x)
  (he:starEach (e::es) C.env=(false,eval e C.env)::starEach es C.env:=by rfl):ArgsN G C lv σ pos (e::es) Q x:=fun K J m own s S I O=>by
 rw [he]
 show wpN _ _ (spliced ((false,_)::backTo pos (starEach es C.env))) _ _ s
 rw [spliced]
 refine .bind ?_
 rw [if_neg Bool.false_ne_true]
 refine h.seq S I O (fun K₁ own₁ v σ₁ h₁ tk₁ cv k₁ I₁ O₁ r₁ S₁ q₁=>?_) fun _ _ f=>f
 simp only [Bool.false_eq_true,if_false]
 refine .bind (.pure (.bind (.holding (RunN.seq q₁ (s:={s with heap:=h₁,toks:=tk₁}) S₁ I₁ O₁ (fun K₂ own₂ vs σ₂ h₂ tk₂ cvs k₂ I₂ O₂ r₂ S₂ q₂=>?_) fun ev s' f=>⟨f.1,f.2.start rfl⟩))))
 exact .pure ⟨K₂,own₂,v::vs,σ₂,h₂,tk₂,rfl,fun a o z=>k₂ _ _ (k₁ _ _ z),I₂,O₂,.cons (r₁.mono k₂) r₂,q₂⟩
theorem ArgsN.nil {pos:Pos}{Q:List AVal→Own→Prop}(h:Q [] σ):ArgsN G C lv σ pos [] Q x:= .of (Args'.nil h)
theorem EvN.call {func:Expr}{args:List Expr}{pos:Pos}(h:Ev G C lv σ func (fun fv σ₁=> ∃f,fv= .cst f∧Keeps G f∧ArgsN G C lv σ₁ pos args (fun vs σ₂=>CallN G C lv σ₂ f vs Q x) x) x)
  (he:eval (.Call func args [] pos) C.env=(do callWith pos (←eval func C.env) [] (backTo pos (starEach args C.env)) (backToKw pos (keywordEach [] C.env))):=by rfl)
  (hplain:(backTo pos (starEach args C.env)).all (fun x=>!x.1)=true:=by rfl):EvN G C lv σ (.Call func args [] pos) Q x:=fun K J m own s S I O=>by
 rw [he]
 refine .seq (h.seq S I O (fun K₁ own₁ v σ₁ h₁ tk₁ cv k₁ I₁ O₁ r₁ S₁ q₁=>?_) fun _ _ f=>f)
 obtain ⟨f,rfl,hkp,q⟩:=q₁
 cases r₁
 refine wpN.callWith hplain hkp (RunN.seq q (s:={s with heap:=h₁,toks:=tk₁}) S₁ I₁ O₁ (fun K₂ own₂ vs σ₂ h₂ tk₂ cvs k₂ I₂ O₂ r₂ S₂ q₂=>?_) fun ev s' f=>⟨f.1,f.2.start rfl⟩)
 refine ⟨S₂.glo.frag.keeps (S₂.fr I₂).keep,?_⟩
 exact (q₂ K₂ J m own₂ {s with heap:=h₂,toks:=tk₂} cvs S₂ I₂ O₂ r₂).mono (fun cv s' p=>p.from fun a o z=>k₂ _ _ (k₁ _ _ z)) fun ev s' f=>⟨f.1,f.2.start rfl⟩
theorem EvN.meth {o : Expr} {name : Str} {apos pos : Pos} {args : List Expr} {pl : Sem Bool} (f : Value)
  (h : Ev G C lv σ o (fun ov σ₁=>Meth G C lv σ₁ ov name f ∧ Keeps G f ∧ ArgsN G C lv σ₁ pos args (fun vs σ₂=>CallN G C lv σ₂ f (ov :: vs) Q x) x) x)
  (he : eval (.Call (.Attribute o name apos) args [] pos) C.env = (do
   let ov ← eval o C.env
   standAt apos.atName
   let (f,first) ← holding [ov] (getMethod ov name pl)
   callWith pos f first (backTo pos (starEach args C.env)) []) :=by rfl)
  (hplain : (backTo pos (starEach args C.env)).all (fun x=>!x.1) = true:=by rfl) : EvN G C lv σ (.Call (.Attribute o name apos) args [] pos) Q x:=fun K J m own s S I O=>by
 rw [he]
 refine .seq (h.seq S I O (fun K₁ own₁ ov σ₁ h₁ tk₁ ca k₁ I₁ O₁ r₁ S₁ q₁=>?_) fun _ _ f=>f)
 obtain ⟨q1,q2,q3⟩ :=q₁
 refine .seq (wpAny_standAt (.seq (wpAny_holding (q1 K₁ J m own₁ {s with heap:=h₁,toks:=tk₁} ca pl _ _ S₁ I₁ O₁ r₁ ?_))))
 refine wpN.callWith hplain q2 (RunN.seq q3 (s:={s with heap:=h₁,toks:=tk₁}) S₁ I₁ O₁ (fun K₂ own₂ vs σ₂ h₂ tk₂ cvs k₂ I₂ O₂ r₂ S₂ q₂=>?_) fun ev s' f=>⟨f.1,f.2.start rfl⟩)
 refine ⟨S₂.glo.frag.keeps (S₂.fr I₂).keep,?_⟩
 exact (q₂ K₂ J m own₂ {s with heap:=h₂,toks:=tk₂} (ca :: cvs) S₂ I₂ O₂ (.cons (r₁.mono k₂) r₂)).mono (fun cv s' p=>p.from fun a o z=>k₂ _ _ (k₁ _ _ z)) fun ev s' f=>⟨f.1,f.2.start rfl⟩
theorem ExN.for {target iter:Expr}{body:List Stmt}{pos:Pos}{Qn:List (Option AVal)→Own→Prop}{Qr:AVal→Own→Prop}(vs:List AVal)(Φ:Nat→List (Option AVal)→Own→Prop)
  (hit:Ev G C lv σ iter (fun v σ₁=>IterOf v vs∧Φ 0 lv σ₁) x)
  (turn: ∀i v lv σ,vs[i]?=some v→Φ i lv σ→Sto G C lv σ (fun cv=>PySem.assign target C.env cv) v (fun lv' σ'=>ExN G C lv' σ' (execs body C.env) (Φ (i+1)) Qr x) x)
  (done: ∀lv σ,Φ vs.length lv σ→Qn lv σ)
  (hE:C.env=C.fenv:=by rfl)
  (hs: ∀y,foldedSetIterable iter C.env y=pure y:=by intro _;rfl):ExN G C lv σ (exec (.For target iter body [] pos) C.env) Qn Qr x:=fun K J m own s S I O=>by
 refine wpN.forStmt (hit.seq S I O (fun K₁ own₁ v σ₁ h₁ tk₁ cv k₁ I₁ O₁ r₁ S₁ q₁=>?_) fun _ _ f=>⟨f.1,.flown f.2⟩) hs
 obtain ⟨hI,hΦ⟩:=q₁
 refine iter_of S.hh hI I₁ r₁ fun It St h₂ tk₂ g hIt W st=>?_
 obtain ⟨fp,P,W,hfp,hP,hob⟩:=W
 refine (hob 0 _ st).elim fun o₀ hi=>?_
 have hI0:C.h₀.get? It=none:=h0_none S₁ I₁ hIt
 have nJ:=(not_of_none I₁ hIt).1
 have hIc:=S.notCell nJ
 have I₂:=I₁.addJ g hIt hi.1
 have S₂:Sit G C lv K₁ (J.upd It o₀) m:=S₁.upd hI0 fun o' z=>(nJ o' z).elim
 refine codeN.forLoop (ForI G C K₁ J s vs.length Φ It St) ?_ (vs.length+1) ?_
 ·rintro k s' ⟨i,K',J',own',lv',σ',m',h',tk',o,rfl,hle,rfl,hk',hj',S',I',O',hΦ',st',hJo,ho⟩
  have pl:=plain_at I' hJo ho
  by_cases hi:i<vs.length
  ·refine W.item i _ _ _ hi st' fun cv' h'' tk'' hp st'' hkeep=>?_
   refine (hP _ _ hp).elim fun av ha=>?_
   refine (hob _ _ st'').elim fun o' he=>?_
   have I'':=I'.updJ (one_other hkeep) hJo he.1
   have S'':Sit G C lv' K' (J'.upd It o') m':=S'.upd hI0 pl
   refine letGo_plain he.1 he.2 ?_
   have T:=turn i av lv' σ' ha.1 hΦ'
   refine wpAny_mono (T K' _ m' own' {s with heap:=h'',toks:=tk''} cv' S'' I'' O' (ha.2.mono hk')) (fun _ s₃ p=>?_) fun ev s₃ f=>?_
   ·obtain ⟨K₃,J₃,own₃,lv₃,σ₃,m₃,h₃,tk₃,rfl,k₃,j₃,S₃,I₃,O₃,q⟩:=p
    refine (q K₃ J₃ m₃ own₃ _ S₃ I₃ O₃).mono (fun fl s₄ p=>?_) fun ev s₄ f=>?_
    ·obtain ⟨K₄,J₄,own₄,lv₄,σ₄,m₄,h₄,tk₄,rfl,k₄,j₄,S₄,I₄,O₄,q⟩:=p
     have hK: ∀a o,K₁ a o→K₄ a o:=fun a o z=>k₄ _ _ (k₃ _ _ (hk' _ _ z))
     have hJ: ∀a ob,J a ob→a∉C.cells→J₄ a ob:=fun a ob z nc=>j₄ _ _ (j₃ _ _ (Kept.upd_other (hj' _ _ z nc) fun q=>nJ _ (q▸z)) nc) nc
     have hIt4:J₄ It o':=j₄ _ _ (j₃ _ _ Kept.upd_self hIc) hIc
     rcases q with ⟨rfl,q⟩|⟨cv,v,rfl,rv,q⟩
     ·exact ⟨vs.length+1 - (i+1),subL hi,i+1,K₄,J₄,own₄,lv₄,σ₄,m₄,h₄,tk₄,o',rfl,hi,rfl,hK,hJ,S₄,I₄,O₄,q,walks_frame W hfp st'' I'' hk' he.1 I₄ hK hIt4,hIt4,he.2⟩
     ·exact ⟨K₄,J₄,own₄,lv₄,σ₄,m₄,h₄,tk₄,rfl,fun a o z=>hK _ _ (k₁ _ _ z),hJ,S₄,I₄,O₄,.inr ⟨cv,v,rfl,rv,q⟩⟩
    ·exact Thrown.noted S hE f.1 (Thrown.start (h:=_) (tk:=_) rfl (f.2.start rfl))
   ·exact Thrown.noted S hE f.1 (f.2.start rfl)
  ·have:i=vs.length:=Nat.le_antisymm hle (Nat.not_lt.mp hi)
   subst this
   refine W.done _ _ _ st' fun h'' tk'' hkeep=>?_
   exact .of (wpAny_pure ⟨K',J'.del It,own',lv',σ',m',h'',tk'',rfl,fun a o z=>hk' _ _ (k₁ _ _ z),fun a ob z nc=>⟨fun q=>nJ _ (q▸z),hj' _ _ z nc⟩,S'.del hI0 pl,I'.delJ (one_other hkeep) hJo,O',.inl ⟨rfl,done _ _ hΦ'⟩⟩)
 ·exact ⟨0,K₁,J.upd It o₀,own₁,lv,σ₁,m,h₂,tk₂,o₀,rfl,Nat.zero_le _,rfl,fun _ _ e=>e,fun a o z _=>Kept.upd_other z fun q=>nJ _ (q▸z),S₂,I₂,O₁,hΦ,st,Kept.upd_self,hi.2⟩
end
section
variable {G:Gl}{C:Cx}{lv:List (Option AVal)}{σ:Own}{x:Prop}{Q:AVal→Own→Prop}
theorem CodeN.intro {f:Addr}{D:DefAt G f}{ps:List Str}(ok:D.Ok ps){vs:List AVal}(hn:vs.length=ps.length)(hrk:1≤C.rk)
  (hb: ∀cvs:List Value,cvs.length=vs.length→bindArgs D.fn ⟨cvs,[]⟩=pure (ps.zip cvs))
  (h: ∀g L',ExN G (D.cx C g L') (vs.map some++List.replicate (D.scope.names.length - vs.length) none) σ (execs D.body (envOfC D.qual D.scope L' f D.cdv)) (fun _ σ'=>Q .none σ') Q x):
  ∀K J m own s cvs (R:Result→Shared→Prop),Sit G C lv K J m→Inv K J own C.L m s.heap→Owns G.w.params K σ own→VRels G.w.params K vs cvs→
  (∀cv s',Post G C.L m K J s Q cv s'→R (.ok (.ret cv)) s')→(∀ev s',x∧Flown C s ev s'→R (.error ev) s')→codeN (model G.prog G.w) C.A (.call (.ref f) ⟨cvs,[]⟩) R s:=by
 intro K J m own s cvs R S I O r hR hRE
 have X:=S.glo.frag.keeps (S.fr I).keep
 have hlen:cvs.length=vs.length:=r.length
 have hd1:=S.depth
 refine codeN.callFunction (fd:=D.fn) (by exact Nat.lt_of_add_right_lt hd1) (X _ _ ok.at_) rfl ok.hco ok.hgen rfl (codeRec_of X ok.code) ?_
 rw [hb cvs hlen]
 refine wpAny_pure ?_
 have hzip:((ps.zip cvs).map (·.1))=ps:=List.map_fst_zip (by omega)
 refine wpAny_newFunctionEnv_cells ok.kind (fun y hy=>?_) fun env' he s' hx=>?_
 ·have hy':y.1∈ps:=hzip▸List.mem_map_of_mem hy
  exact (ok.kinds _ hy').imp id fun q=>⟨q,ok.has _ _ q⟩
 subst he
 refine ⟨(S.glo.nolimit.keeps (S.fr I).keep).keeps hx.toInCall.keep,codeN.func ?_⟩
 obtain ⟨h₁,tk,rfl,hk₁⟩:=hx.done
 generalize hLdef:s.heap.objs.size=L' at hx
 obtain ⟨g,J',m',hg1,hg2,BG,FG,S',I',jj,jl⟩:=entry ok hn hrk S I r hLdef hx hk₁
 exact (h g L' K J' _ own {s with heap:=h₁,toks:=tk} S' I' O).mono (fun fl s₂ p=>hR _ _ (back_post I.ns I jj jl p)) fun ev s₂ f=>back_thrown ok.kind S.hA BG FG f.1 (fun ev s' q=>hRE ev s' q) f.2
theorem CallN.intro {f:Addr}{D:DefAt G f}{ps:List Str}(ok:D.Ok ps){vs:List AVal}(hn:vs.length=ps.length)(hrk:1≤C.rk)
  (hb: ∀cvs:List Value,cvs.length=vs.length→bindArgs D.fn ⟨cvs,[]⟩=pure (ps.zip cvs))
  (h: ∀g L',ExN G (D.cx C g L') (vs.map some++List.replicate (D.scope.names.length - vs.length) none) σ (execs D.body (envOfC D.qual D.scope L' f D.cdv)) (fun _ σ'=>Q .none σ') Q x):
  CallN G C lv σ (.ref f) vs Q x:=fun K J m own s cvs S I O r=>
 wpN.call (CodeN.intro ok hn hrk hb h K J m own s cvs _ S I O r (fun _ _ p=>p) fun _ _ f=>f)
end
section
variable {prog:Program}{w:World}{A:Around}{E:Value→Shared→Prop}{R:Result→Shared→Prop}{s:Shared}
theorem codeN.callBuiltinAt {id:String}{args:Args}{b:Builtin}(hq:(Code.builtin id args).quiet=true)(hd:decodes (.builtin id args)=false)(hb:entryFor table id=some b)
  (h:wpAny (model prog w) A.in1 (checkBuiltinCall id args) (fun _ s₁=>wpN (model prog w) (A.under (.builtin id args)) (b args)
   (fun fin s'=>match fin with| .done f=>R (.ok f) s'| .again c'=>c'.quiet=true∧decodes c'=false∧codeN (model prog w) A c' R s') (fun e s'=>R (.error e) s') s₁)
   (fun e s'=>R (.error e) s') s):codeN (model prog w) A (.call (.builtin id) args) R s:=by
 refine codeN.tree ?_
 show wpN _ A.in1 (do checkBuiltinCall id args;again (.builtin id args)) _ _ s
 refine .seq (wpAny_mono h (fun _ s₁ h₁=> .pure ⟨hq,hd,codeN.tree ?_⟩) fun _ _ e=>e)
 show wpN _ _ (match entryFor table id with|some b=>b args|none=>unsupported ((withoutEnding? id "#data").getD id)) _ _ s₁
 rw [hb];exact h₁
theorem type_call_clean {args:Args}:decodes (.builtin "type.__call__" args)=false:=by
 show Builtin.Bytes.decodersThatHold.contains "type.__call__"=false
 decide+kernel
theorem codeN.makeCore {C:Addr}{h:Heap}{g:Array GenState}{d:Drawn}{t:Nat}{os:OsState}{rest:List Value}{init:Value}(Y:Makes (model prog w) h C)(hi:Looks (model prog w) h (typeLookup (.ref C) "__init__") (some init))
  (hb: ∀self,Looks (model prog w) h (bindSpecial init self) (init,[self])) (hne:(some init !=some (Value.builtin "object.__init__"))=true)
  (hq:codeN (model prog w) (A.under (.builtin "type.__call__" ⟨.ref C::rest,[]⟩)) (.call init ⟨.ref (h.objs.size+1)::rest,[]⟩) (InitBack (h.objs.size+1) R) ⟨(h.push emptyDict).push (instObj C h.objs.size),g,d,t,os⟩):
  codeN (model prog w) A (.call (.ref C) ⟨rest,[]⟩) R ⟨h,g,d,t,os⟩:=by
 have Y':=Y
 refine hideG fun M kM=>?_
 obtain ⟨⟨oc,od,cd,sl,hC,e1,e2,e4⟩,made,base,self,top,call,typ⟩:=Y
 refine kM ?_
 clear kM
 refine codeN.tree ?_
 show wpN _ _ (callAny (.ref C) _) _ _ _
 unfold callAny
 refine .seq (wpAny_load hC ?_)
 show wpN _ _ (callAny.viaDunder (.ref C) _) _ _ _
 unfold callAny.viaDunder
 refine .seq (call.at ?_)
 dsimp only
 refine rwG (tc_bind ..) ?_
 refine .seq (wpAny_pure (.seq (wpAny_pure ?_)))
 refine wpN.pure (a:=Fin.again (.call (.builtin "type.__call__") ⟨.ref C::rest,[]⟩)) ⟨rfl,rfl,?_⟩
 refine codeN.callBuiltinAt (Code.quiet_builtin _ (by decide+kernel)) type_call_clean entry_typeCall (check_slot tc_kind tc_split typ (tc_args _ _ _) ?_)
 unfold Builtin.«type.__call__»
 have hm:Looks (model prog w) h (mroOf (.ref C)) cd.mro:=((Looks.ld (part:=none) hC).andThen .now).andThen .now
 have k: ∀b o,h.get? b=some o→((h.push emptyDict).push (instObj C h.objs.size)).get? b=some o:=fun b o e=>Heap.get?_push_of_some _ (Heap.get?_push_of_some _ e)
 have hx:((h.push emptyDict).push (instObj C h.objs.size)).get? (h.objs.size+1)=some (instObj C h.objs.size):=by heap_get
 have t1:Looks (model prog w) ((h.push emptyDict).push (instObj C h.objs.size)) (typeOf (.ref (h.objs.size+1))) (.ref C):=(Looks.ld hx).andThen .now
 have s1:=self.keeps k
 have i1:=hi.keeps k
 have b1:=(hb (.ref (h.objs.size+1))).keeps k
 dsimp only
 refine rwG (if_neg (show¬((Value.ref C==Value.type "type")=true) from by simp)) ?_
 refine .seq (hm.here ?_)
 refine rwG (if_neg (show¬(cd.mro.isEmpty=true) from by rw [e4];decide)) ?_
 refine .seq (made.here ?_)
 refine .seq (wpAny_pure ?_)
 refine .seq (wpAny_holding (wpAny_call (new_K Y' hi (.inl hne) ?_)))
 refine .seq ((t1.andThen s1:Looks (model prog w) _ (isInstance (.ref (h.objs.size+1)) (.ref C)) true).here ?_)
 refine rwG (if_neg (by decide) ..) ?_
 refine .bind (.holding ?_)
 unfold callSpecial?
 refine .seq ((t1.andThen i1:Looks (model prog w) _ (specialOf (.ref (h.objs.size+1)) "__init__") (some init)).here ?_)
 refine .holding (.seq (b1.here ?_))
 refine .bind (.call (codeN.mono hq fun r s' z=>?_))
 rcases r with e|(v|_|_|_)<;>first|exact z|exact z.elim|skip
 obtain ⟨rfl,z⟩:=z
 exact .pure (.pure z)
end
section
variable {prog:Program}{w:World}{A:Around}{K:Frag}{C x:Addr}{s:Shared}{h₀:Heap}{L:Addr}{m:Str→Option Value}{news:List (Addr×Obj)}{R:Result→Shared→Prop}
theorem makeKN {rest:List Value}{fI:Addr}(F:Fr h₀ L s.heap m)(N:News h₀ L s.heap news)(X:K.In s.heap)(hm:makesIn K C=true)
  (hi:findIn K (.ref C) "__init__"=some (some (.ref fI))) (hf:typeIn K (.ref fI)=some (.type "function"))
  (h: ∀x dx h',Fr h₀ L h' m→News h₀ L h' ((x,instObj C dx)::(dx,emptyDict)::news)→(∀p∈news,p.1<dx)→dx<x→
   codeN (model prog w) (A.under (.builtin "type.__call__" ⟨.ref C::rest,[]⟩)) (.call (.ref fI) ⟨.ref x::rest,[]⟩) (InitBack x R) {s with heap:=h'}):
  codeN (model prog w) A (.call (.ref C) ⟨rest,[]⟩) R s:=by
 refine hideG fun M kM=>?_
 obtain ⟨hh,g,d,t,os⟩:=s
 refine kM ?_
 clear kM
 refine codeN.makeCore (makes_of X hm) (looks_findIn X hi) (fun self=>bind_fn X self hf) (by rfl) (h _ hh.objs.size _ ((F.push _).push _) ?_ (fun p hp=>Heap.lt_size (N p hp).1) (Nat.lt_succ_self _))
 have:=(N.push F emptyDict).push (F.push _) (instObj C hh.objs.size)
 rwa [Heap.size_push] at this
end
section
variable {G:Gl}{C:Cx}{lv:List (Option AVal)}{σ:Own}{Q:AVal→Own→Prop}{x:Prop}
noncomputable def CodeCN (G:Gl)(C:Cx)(lv:List (Option AVal))(σ:Own)(f:Addr)(vs:List AVal)(Q:AVal→Own→Prop)(x:Prop):Prop:=
 ∀K J m own s cvs (R:Result→Shared→Prop),Sit G C lv K J m→Inv K J own C.L m s.heap→Owns G.w.params K σ own→VRels G.w.params K vs cvs→
  (∀cv s',Post G C.L m K J s Q cv s'→R (.ok (.ret cv)) s')→(∀ev s',x∧Flown C s ev s'→R (.error ev) s')→codeN (model G.prog G.w) C.A (.call (.ref f) ⟨cvs,[]⟩) R s
theorem CallN.make {Cl fI : Addr} {vs : List AVal} (mo : MakeOk G.frag Cl fI) (hrk : 1 ≤ C.rk)
  (h : ∀ a A,CodeCN G (C.at A) lv (σ ++ [(a,.inst Cl [])]) fI (.ref a :: vs) (fun v σ₂=>v = .none ∧ Q (.ref a) σ₂) x) : CallN G C lv σ (.ref Cl) vs Q x:=by
 intro K J m own s cvs S I O r
 have F:=S.fr I
 refine wpN.call (makeKN (news:=restOf C.h₀ C.L s.heap) F news_rest (S.glo.frag.keeps F.keep) mo.makes mo.init (beq_iff_eq.mp mo.fn) fun a dx h' F' N' hlt hdx=>?_)
 refine hideG fun M kM=>?_
 obtain ⟨u1,u2,ug,u3,u4⟩ :=tc_under C.A Cl cvs _ S.hA
 refine kM ?_
 clear kM
 refine h a _ K J m _ {s with heap:=h'} (.ref a :: cvs) _ (S.at hrk u1 u2 ug u3 u4) (I.made F F' N' hlt hdx) O.made (.cons (.ref a) r) (fun cv s' p=>?_) fun ev s' f=>?_
 ·obtain ⟨K',own',v,σ',h2,tk2,rfl,hk,I',O',r',rfl,q⟩ :=p
  refine r'.noneE ?_
  exact ⟨rfl,K',own',_,σ',h2,tk2,rfl,hk,I',O',.ref a,q⟩
 ·exact ⟨f.1,f.2.at rfl⟩
end
/-! facts of the built-in type bytearray -/
theorem slot_ba_extend :Slot "bytearray" "extend" "bytearray.extend":=
 .of (owner:= "bytearray") (n:= "extend") (by rw [typeLookup_type,builtinLookup_eq_fast];kernel_rfl) (by decide+kernel) (by decide+kernel) (by decide+kernel)
  (by first|exact .inl (by decide+kernel)|exact .inr (by decide+kernel)) (by rw [isSubtype_type];kernel_rfl)
theorem type_ba_extend :typeOf (.builtin "bytearray.extend")=pure (.type "method_descriptor"):=by show builtinType _=_;rw [builtinType_eq_fast];kernel_rfl
theorem entry_ba_extend :entryFor table "bytearray.extend"=some Builtin.«bytearray.extend»:=by first|exact entryFor_of_fast (by kernel_rfl)|exact entryFor_of_tree (by kernel_rfl)
theorem args_ba_extend (a b:Value):argsOk "bytearray.extend" ⟨[a,b],[]⟩:=by unfold argsOk;kernel_rfl
theorem ba_getattribute : ∃g,typeLookup (.type "bytearray") "__getattribute__"=pure (some (.builtin g))∧(Manifest.canonical g != "object.__getattribute__")=false:=
 ⟨"bytearray.__getattribute__",by rw [typeLookup_type,builtinLookup_eq_fast];kernel_rfl,by decide+kernel⟩
theorem plainAttrs_ba :PlainAttrs "bytearray":=⟨ba_getattribute,by rw [typeLookup_type,builtinLookup_eq_fast];kernel_rfl⟩
theorem bytes_buffer :typeLookup (.type "bytes") "__buffer__"=pure (some (.builtin "bytes.__buffer__")):=by rw [typeLookup_type,builtinLookup_eq_fast];kernel_rfl
theorem bytes_release :typeLookup (.type "bytes") "__release_buffer__"=pure none:=by rw [typeLookup_type,builtinLookup_eq_fast];kernel_rfl
theorem sub_bytes :isSubtype (.type "bytes") (.type "bytes")=pure true:=by rw [isSubtype_type];kernel_rfl
section
variable {prog:Program}{w:World}{A:Around}{E:Value→Shared→Prop}{s:Shared}
theorem wpN.callEntry {T:String}{name:Str}{id:String}{b:Builtin}{self:Value}{rest:List Value}{Q:Value→Shared→Prop}(h:Slot T name id)(hd: ∀args,decodes (.builtin id args)=false)(hT:s.TypeIs self T)
  (hb:entryFor table id=some b) (hc:wpN (model prog w) A.in1 (b ⟨self::rest,[]⟩) (fun fin s'=> ∃v,fin= .done (.ret v)∧Q v s') E s) (ha:argsOk id ⟨self::rest,[]⟩):
  wpN (model prog w) A (PySem.call (.builtin id) (self::rest)) Q E s:=by
 refine .call (codeN.callBuiltinAt (plainId_quiet h.plain _) (hd _) hb (h.check _ _ _ _ _ _ _ _ hT ha ?_))
 rw [Around.under_plainId h.plain]
 refine hc.mono (fun fin s' h'=>?_) fun _ _ e=>e
 obtain ⟨v,rfl,hv⟩:=h'
 exact hv
theorem slotIsOwn_bytes {b:Array UInt8}{t:Tok}{Q:Bool→Shared→Prop}(h:Q true s):wpAny (model prog w) A (Builtin.Bytes.slotIsOwn (.bytes b t) "__buffer__") Q E s:=by
 unfold Builtin.Bytes.slotIsOwn
 refine wpAny_bind (wpAny_specialOf (typeIs_bytes _ _ _) bytes_buffer ?_)
 try dsimp only
 refine wp_neg (by decide+kernel) ?_
 have e:("bytes.__buffer__".dropRight ("__buffer__".length+1))= "bytes":=by decide+kernel
 rw [e]
 exact wpAny_isInstance (typeIs_bytes _ _ _) sub_bytes h
theorem release_bytes {b:Array UInt8}{t:Tok}{Q:Bool→Shared→Prop}(h:Q false s):wpAny (model prog w) A (Builtin.Bytes.ownRelease (.bytes b t)) Q E s:=by
 unfold Builtin.Bytes.ownRelease Builtin.Bytes.slotIsOwn
 refine wpAny_bind (wpAny_bind (wpAny_specialOf (typeIs_bytes _ _ _) bytes_release ?_))
 exact wpAny_pure (wpAny_pure h)
theorem take_bytes {id:String}{b:Array UInt8}{t:Tok}{Q:Option (Array UInt8×Option Value)→Shared→Prop}(h:Q (some (b,none)) s):wpAny (model prog w) A (Builtin.Bytes.takeBufferQuiet? id (.bytes b t) 0) Q E s:=by
 unfold Builtin.Bytes.takeBufferQuiet?
 refine wpAny_bind (wpAny_attempt ?_)
 unfold Builtin.Bytes.takeBuffer?
 refine wpAny_bind (wpAny_specialOf (typeIs_bytes _ _ _) bytes_buffer ?_)
 try dsimp only
 refine wpAny_bind (slotIsOwn_bytes ?_)
 refine wp_neg (by decide) ?_
 refine wpAny_bind (wpAny_specialOf (typeIs_bytes _ _ _) bytes_buffer ?_)
 try dsimp only
 refine wpAny_bind ?_
 unfold Builtin.Bytes.buffer?
 refine wpAny_bind (wpAny_specialOf (typeIs_bytes _ _ _) bytes_buffer ?_)
 try dsimp only
 refine wpAny_bind (slotIsOwn_bytes ?_)
 refine wp_neg (by decide) ?_
 refine wpAny_bind (wpAny_specialOf (typeIs_bytes _ _ _) bytes_buffer ?_)
 try dsimp only
 refine wpAny_bind (release_bytes ?_)
 refine wp_neg (by decide) ?_
 refine wpAny_bind ?_
 unfold Builtin.Bytes.payload Builtin.Bytes.payload?
 refine wpAny_bind (wpAny_pure (wpAny_pure (wpAny_pure (wpAny_pure ?_))))
 exact wpAny_pure h
theorem exported_clean {a:Addr}{Q:Bool→Shared→Prop}(hg:A.guards=some [])(h:Q false s):wpN (model prog w) A (Builtin.Bytes.exported (.ref a)) Q E s:=by
 intro Γ p hΓ hcl
 have hgd:guardsOf ((Γ.code,p)::Γ.below)= []:=by rw [guardsOf_cons];exact hΓ.2.2.2.1 _ hg
 have hdec: ∀y∈(Γ.code,p)::Γ.below,decodes y.1=false:=fun y hy=>by
  rcases List.mem_cons.mp hy with rfl|hy
  ·exact hcl.1
  ·exact hcl.2 y hy
 have hgu: ∀y∈(Γ.code,p)::Γ.below,y.1.isGuard=false:=fun y hy=>by
  cases q:y.1.isGuard with
  |false=>rfl
  |true=>
   have:y.1∈guardsOf ((Γ.code,p)::Γ.below):=List.mem_filter.mpr ⟨List.mem_map_of_mem hy,q⟩
   rw [hgd] at this
   exact absurd this (List.not_mem_nil)
 generalize hst:(Γ.code,p)::Γ.below=st at hdec hgu
 unfold Builtin.Bytes.exported
 show Q (((Γ.code,p)::Γ.below).any _) s
 rw [hst]
 have key: ∀(f:Code×Pos→Bool),(∀y∈st,f y=false)→st.any f=false:=fun f hf=>by
  cases q:st.any f with
  |false=>rfl
  |true=>
   obtain ⟨y,hy,e⟩:=List.any_eq_true.mp q
   rw [hf y hy] at e;cases e
 rw [key _ fun y hy=>?_]
 ·exact h
 ·have h1:=hdec y hy
  have h2:=hgu y hy
  obtain ⟨c,q⟩:=y
  dsimp only at h1 h2⊢
  have bad: ∀id,guardIds.contains id=true→ ∀args,c= .builtin id args→False:=fun id h3 args e=>by
   subst e
   have h4:guardIds.contains id=false:=h2
   rw [h3] at h4;cases h4
  cases c with
  |builtin id args=>
   obtain ⟨pos,kw⟩:=args
   have ne: ∀s:String,guardIds.contains s=true→id≠s:=fun s h3 e=>bad s h3 ⟨pos,kw⟩ (e▸rfl)
   delta Builtin.Bytes.exported.match_1
   show dite (id= "bytearray.__contains__") _ _=false
   refine (dif_neg (ne "bytearray.__contains__" (by decide+kernel))).trans ?_
   refine (dif_neg (ne "bytearray.__mod__" (by decide+kernel))).trans ?_
   refine (dif_neg (ne "bytearray.__rmod__" (by decide+kernel))).trans ?_
   refine (dif_neg (ne "_struct.pack_into.held" (by decide+kernel))).trans ?_
   refine (dif_neg (ne "bytearray.find.held" (by decide+kernel))).trans ?_
   cases pos with
   |nil=>rfl
   |cons v r=>
    have h3:Builtin.Bytes.decodersThatHold.contains id=false:=h1
    show (_&&Builtin.Bytes.decodersThatHold.contains id)=false
    rw [h3,Bool.and_false]
  |_=>rfl
end
section
variable {prog:Program}{w:World}{A:Around}{E:Value→Shared→Prop}{s:Shared}
theorem exports_none {a:Addr}{b:List UInt8}{Q:Nat→Shared→Prop}(ho:s.heap.get? a=some (bytearrayObj b))(h:Q 0 s):wpAny (model prog w) A (Builtin.Bytes.exportsOf (.ref a)) Q E s:=by
 unfold Builtin.Bytes.exportsOf
 exact wpAny_bind (wpAny_load ho (wpAny_pure h))
theorem checkResize_ok {a:Addr}{b:List UInt8}{Q:Unit→Shared→Prop}(hg:A.guards=some [])(ho:s.heap.get? a=some (bytearrayObj b))(h:Q () s):wpN (model prog w) A (Builtin.Bytes.checkResize (.ref a)) Q E s:=by
 unfold Builtin.Bytes.checkResize
 refine .bind ?_
 unfold orM
 refine .bind (exported_clean hg ?_)
 show wpN _ _ (Builtin.Bytes.exportsOf (.ref a)>>=fun n=>Pure.pure (decide (n>0))) _ _ _
 refine .seq (exports_none ho ?_)
 refine .pure ?_
 show wpN _ _ (if decide ((0:Nat)>0)=true then _ else _) _ _ _
 rw [if_neg (by decide)]
 exact .pure h
theorem write_ok {a:Addr}{b b':List UInt8}{f:Array UInt8→Array UInt8}{Q:Unit→Shared→Prop}(ho:s.heap.get? a=some (bytearrayObj b))(hf:f b.toArray=b'.toArray)(hz:b'.length≤16777216)
  (h: ∀h',h'.get? a=some (bytearrayObj b')→Heap.SameBut a s.heap h'→Q () {s with heap:=h'}):wpAny (model prog w) A (Builtin.Bytes.write (.ref a) f) Q E s:=by
 unfold Builtin.Bytes.write updateBytearray
 refine wpAny_bind (wpAny_load ho ?_)
 refine wpAny_bind (wpAny_update ho ?_)
 have e:(s.heap.update a (Obj.mapBytearray f)).get? a=some (bytearrayObj b'):=by
  have:=Heap.get?_update_self (Obj.mapBytearray f) ho rfl
  rw [this]
  show some ({cls:=_,dict:=_,data:= .bytearray (f b.toArray) 0,slots:=_}:Obj)=_
  rw [hf]
 refine wpAny_lookBehind e ?_ (h _ e (Heap.SameBut.update ..))
 show (if b'.toArray.size>sizeLine then some "bytearray:memory" else none)=none
 rw [if_neg (by rw [sizeLine_eq];simp;omega)]
theorem extend_bytes {a:Addr}{b c:List UInt8}{t:Tok}{Q:Value→Shared→Prop}(hg:A.guards=some [])(ho:s.heap.get? a=some (bytearrayObj b))(hz:b.length+c.length≤16777216)
  (h: ∀h',h'.get? a=some (bytearrayObj (b++c))→Heap.SameBut a s.heap h'→Q .none {s with heap:=h'}):wpN (model prog w) A (PySem.call (.builtin "bytearray.extend") [.ref a,.bytes c.toArray t]) Q E s:=by
 refine wpN.callEntry slot_ba_extend (fun _=>by show Builtin.Bytes.decodersThatHold.contains "bytearray.extend"=false;decide+kernel) ⟨_,ho,rfl⟩ entry_ba_extend ?_ (args_ba_extend _ _)
 unfold Builtin.«bytearray.extend»
 refine .seq (m:=selfAndOne "bytearray.extend" ⟨[.ref a,.bytes c.toArray t],[]⟩) (wpAny_pure ?_)
 refine .seq (wpAny_specialOf (typeIs_bytes _ _ _) bytes_buffer ?_)
 rw [if_pos (by rfl)]
 refine .seq (wpAny_rule ?_)
 refine .seq ?_
 unfold Builtin.Bytes.payload Builtin.Bytes.payload?
 refine wpAny_bind (wpAny_bind (wpAny_load ho (wpAny_pure (wpAny_pure ?_))))
 refine .seq (take_bytes ?_)
 dsimp only
 rw [if_pos (by rfl)]
 show wpN _ _ (do
  if !c.toArray.isEmpty then Builtin.Bytes.checkResize (.ref a)
  Builtin.Bytes.write (.ref a) (· ++c.toArray)
  ret .none) _ _ _
 have fin:wpN (model prog w) A.in1 (do Builtin.Bytes.write (.ref a) (· ++c.toArray);ret .none) (fun fin s'=> ∃v,fin= .done (.ret v)∧Q v s') E s:=
  .seq (write_ok (b':=b++c) ho (by simp) (by simp;omega) fun h' e hs=> .pure ⟨_,rfl,h h' e hs⟩)
 split
 ·exact .bind (checkResize_ok hg ho fin)
 ·exact fin
end
theorem ba_mro :mroOf (.type "bytearray")=pure [.type "bytearray",.type "object"]:=by rw [mroOf_type];kernel_rfl
theorem ba_lookup_new :typeLookup (.type "bytearray") "__new__"=pure (some (.builtin "bytearray.__new__")):=by rw [typeLookup_type,builtinLookup_eq_fast];kernel_rfl
theorem ba_slot_init :Slot "bytearray" "__init__" "bytearray.__init__":=
 .of (owner:= "bytearray") (n:= "__init__") (by rw [typeLookup_type,builtinLookup_eq_fast];kernel_rfl) (by decide+kernel) (by decide+kernel) (by decide+kernel)
  (by first|exact .inl (by decide+kernel)|exact .inr (by decide+kernel)) (by rw [isSubtype_type];kernel_rfl)
theorem ba_sub :isSubtype (.type "bytearray") (.type "bytearray")=pure true:=by rw [isSubtype_type];kernel_rfl
theorem ba_called :TypeCalled "bytearray" "bytearray.__new__" "bytearray.__init__":=
 ⟨by decide+kernel,by decide+kernel,⟨_,_,ba_mro⟩,madeBy_type ba_mro ba_lookup_new (by decide+kernel),by decide+kernel,ba_sub,ba_slot_init⟩
theorem ba_typeCall :checkTypeCall "bytearray" ⟨[],[]⟩=pure ():=by kernel_rfl
theorem ba_newCall :checkBuiltinCall "bytearray.__new__" ⟨[.type "bytearray"],[]⟩=pure ():=by kernel_rfl
theorem ba_entry_new :entryFor table "bytearray.__new__"=some Builtin.«list.__new__»:=entryFor_alias (id':= "list.__new__") (by kernel_rfl) rfl (by decide+kernel) (by kernel_rfl)
theorem ba_entry_init :entryFor table "bytearray.__init__"=some Builtin.«bytearray.__init__»:=by first|exact entryFor_of_fast (by kernel_rfl)|exact entryFor_of_tree (by kernel_rfl)
theorem ba_args_init (a:Value):argsOk "bytearray.__init__" ⟨[a],[]⟩:=by unfold argsOk;kernel_rfl
set_option maxRecDepth 1000000 in
set_option maxHeartbeats 4000000 in
theorem ba_owner :("bytearray.__new__".splitOn ".__new__").headD ""= "bytearray":=by simp+decide [String.splitOn,String.splitOnAux]
theorem ba_bind :Builtin.Bytes.bindOptional "bytearray.__init__" "bytearray" ["source","encoding","errors"] [] []=pure [none,none,none]:=by kernel_rfl
theorem ba_release :typeLookup (.type "bytearray") "__release_buffer__"=pure (some (.builtin "bytearray.__release_buffer__")):=by rw [typeLookup_type,builtinLookup_eq_fast];kernel_rfl
section
variable {prog:Program}{w:World}{A:Around}{E:Value→Shared→Prop}{s:Shared}
theorem code_ba_new {Q₁:Value→Shared→Prop}(h:Q₁ (.ref s.heap.objs.size) {s with heap:=s.heap.push {cls:= .type "bytearray",data:= .bytearray #[]}}):
  codeAny (model prog w) A (.call (.builtin "bytearray.__new__") ⟨[.type "bytearray"],[]⟩) (wants Q₁ E) s:=by
 refine codeAny_of_tree ?_
 show wpAny _ A.in1 (do checkBuiltinCall "bytearray.__new__" ⟨[.type "bytearray"],[]⟩;again (.builtin "bytearray.__new__" ⟨[.type "bytearray"],[]⟩)) _ _ s
 refine wpAny_bind (wpAny_of_eq ba_newCall (wpAny_pure ⟨plainId_quiet ba_called.plain _,codeAny_builtin_stack ba_entry_new rfl fun p st=>?_⟩))
 refine rwG (Around.under_plainId ba_called.plain _ ..) ?_
 have hsub:=ba_sub
 have hown:=ba_owner
 obtain ⟨hp,g,d,tk,os⟩:=s
 simp only [hown]
 wp_walk
 exact h
theorem slotIsOwn_ba_release {a:Addr}{b:List UInt8}{Q:Bool→Shared→Prop}(ho:s.heap.get? a=some (bytearrayObj b))(h:Q true s):wpAny (model prog w) A (Builtin.Bytes.slotIsOwn (.ref a) "__release_buffer__") Q E s:=by
 have hT:s.TypeIs (.ref a) "bytearray":=⟨_,ho,rfl⟩
 unfold Builtin.Bytes.slotIsOwn
 refine wpAny_bind (wpAny_specialOf hT ba_release ?_)
 dsimp only
 refine rwG (if_neg (by decide+kernel) ..) ?_
 have e:("bytearray.__release_buffer__".dropRight ("__release_buffer__".length+1))= "bytearray":=by decide+kernel
 refine rwG (e ..) ?_
 exact wpAny_isInstance hT ba_sub h
theorem ownRelease_ba {a:Addr}{b:List UInt8}{Q:Bool→Shared→Prop}(ho:s.heap.get? a=some (bytearrayObj b))(h:Q false s):wpAny (model prog w) A (Builtin.Bytes.ownRelease (.ref a)) Q E s:=by
 unfold Builtin.Bytes.ownRelease
 exact wpAny_bind (slotIsOwn_ba_release ho (wpAny_pure h))
theorem init_ba {a:Addr}{Q:Value→Shared→Prop}(hg:A.guards=some [])(ho:s.heap.get? a=some (bytearrayObj []))
  (h: ∀h',h'.get? a=some (bytearrayObj [])→Heap.SameBut a s.heap h'→Q .none {s with heap:=h'}):wpN (model prog w) A (PySem.call (.builtin "bytearray.__init__") [.ref a]) Q E s:=by
 refine wpN.callEntry ba_slot_init (fun _=>by show Builtin.Bytes.decodersThatHold.contains "bytearray.__init__"=false;decide+kernel) ⟨_,ho,rfl⟩ ba_entry_init ?_ (ba_args_init _)
 unfold Builtin.«bytearray.__init__»
 refine .seq (ownRelease_ba ho ?_)
 refine rwG (if_neg (by decide) ..) ?_
 refine .seq (wpAny_of_eq ba_bind ?_)
 dsimp only
 refine .seq (wpAny_pure (.seq (wpAny_pure ?_)))
 refine .bind ?_
 unfold orM
 refine .bind (exported_clean hg ?_)
 show wpN _ _ (Builtin.Bytes.exportsOf (.ref a)>>=fun n=>Pure.pure (decide (n>0))) _ _ _
 refine .seq (exports_none ho (.pure ?_))
 show wpN _ _ (if decide ((0:Nat)>0)=true then _ else _) _ _ _
 refine rwG (if_neg (by decide) ..) ?_
 refine .seq (write_ok (b':= []) ho rfl (by simp) fun h' e hs=>?_)
 exact .pure ⟨_,rfl,h h' e hs⟩
theorem codeN.builtin {id:String}{args:Args}{b:Builtin}{R:Result→Shared→Prop}(hb:entryFor table id=some b)
  (h:wpN (model prog w) (A.under (.builtin id args)) (b args) (fun fin s'=>match fin with| .done f=>R (.ok f) s'| .again c'=>c'.quiet=true∧decodes c'=false∧codeN (model prog w) A c' R s') (fun e s'=>R (.error e) s') s):
  codeN (model prog w) A (.builtin id args) R s:=by
 refine codeN.tree ?_
 show wpN _ _ (match entryFor table id with|some b=>b args|none=>unsupported ((withoutEnding? id "#data").getD id)) _ _ s
 rw [hb];exact h
theorem call_bytearray {Q : Value → Shared → Prop} (hg : A.guards = some []) (h : ∀ h',h'.get? s.heap.objs.size = some (bytearrayObj []) → (∀ b o,s.heap.get? b = some o → h'.get? b = some o) → Q (.ref s.heap.objs.size) {s with heap:=h'}) :
  wpN (model prog w) A (PySem.call (.type "bytearray") []) Q E s:=by
 refine .call (codeN.tree ?_)
 show wpN _ _ (callAny (.type "bytearray") _) _ _ _
 refine wpN.pure (a:=Fin.again (.builtin "type.__call__" ⟨[.type "bytearray"],[]⟩)) ⟨Code.quiet_builtin _ (by decide +kernel),type_call_clean,codeN.builtin F.entry_type_call ?_⟩
 refine rwG (Around.under_plain (weight_type_call_type "bytearray" [] []) rfl ..) ?_
 unfold Builtin.«type.__call__»
 dsimp only
 refine rwG (if_neg (by simp) ..) ?_
 refine rwG (if_neg (ne_true_of_eq_false ba_called.canCreate) ..) ?_
 refine .seq (wpAny_of_eq ba_typeCall ?_)
 refine .seq (wpAny_of_eq ba_mro ?_)
 refine rwG (if_neg (by decide) ..) ?_
 refine .seq (wpAny_of_eq ba_called.made ?_)
 refine .seq (wpAny_pure ?_)
 refine .seq (wpAny_holding (wpAny_call (code_ba_new ?_)))
 have n0:=size_none s.heap
 have ho : (s.heap.push {cls:= .type "bytearray",data:= .bytearray #[]}).get? s.heap.objs.size = some (bytearrayObj []) :=Heap.get?_push_size _ rfl
 have kp : ∀ b o,s.heap.get? b = some o → (s.heap.push {cls:= .type "bytearray",data:= .bytearray #[]}).get? b = some o:=fun b o e=>Heap.get?_push_of_some _ e
 generalize s.heap.push {cls:= .type "bytearray",data:= .bytearray #[]} = H at ho kp
 have hT : Shared.TypeIs {s with heap:=H} (.ref s.heap.objs.size) "bytearray" :=⟨_,ho,rfl⟩
 refine .seq (wpAny_isInstance hT ba_sub ?_)
 refine rwG (if_neg (by decide) ..) ?_
 refine .bind (.holding ?_)
 unfold callSpecial?
 refine .seq (wpAny_specialOf hT ba_slot_init.lookup ?_)
 refine .holding (.seq (wpAny_of_eq (ba_slot_init.bind _) ?_))
 refine .bind (init_ba (s:={s with heap:=H}) hg ho fun h' e hs=>?_)
 refine .pure ?_
 dsimp only
 refine rwG (if_neg (by simp) ..) ?_
 exact .pure (h h' e fun b o e2=>(hs.2 b fun q=>by rw [q,n0] at e2;cases e2).trans (kp b o e2))
end
theorem ba_no_bytes :typeLookup (.type "bytearray") "__bytes__"=pure none:=by rw [typeLookup_type,builtinLookup_eq_fast];kernel_rfl
theorem ba_no_index :typeLookup (.type "bytearray") "__index__"=pure none:=by rw [typeLookup_type,builtinLookup_eq_fast];kernel_rfl
theorem ba_buffer :typeLookup (.type "bytearray") "__buffer__"=pure (some (.builtin "bytearray.__buffer__")):=by rw [typeLookup_type,builtinLookup_eq_fast];kernel_rfl
theorem int_no_bytes :typeLookup (.type "int") "__bytes__"=pure none:=by rw [typeLookup_type,builtinLookup_eq_fast];kernel_rfl
theorem int_index :typeLookup (.type "int") "__index__"=pure (some (.builtin "int.__index__")):=by rw [typeLookup_type,builtinLookup_eq_fast];kernel_rfl
section
variable {prog:Program}{w:World}{A:Around}{E:Value→Shared→Prop}{s:Shared}
theorem slotIsOwn_ba_buffer {a:Addr}{b:List UInt8}{Q:Bool→Shared→Prop}(ho:s.heap.get? a=some (bytearrayObj b))(h:Q true s):wpAny (model prog w) A (Builtin.Bytes.slotIsOwn (.ref a) "__buffer__") Q E s:=by
 have hT:s.TypeIs (.ref a) "bytearray":=⟨_,ho,rfl⟩
 unfold Builtin.Bytes.slotIsOwn
 refine wpAny_bind (wpAny_specialOf hT ba_buffer ?_)
 refine wp_neg (by decide+kernel) ?_
 have e:("bytearray.__buffer__".dropRight ("__buffer__".length+1))= "bytearray":=by decide+kernel
 refine rwG (e ..) ?_
 exact wpAny_isInstance hT ba_sub h
theorem bytes_new_of {x:Value}{Q:Value→Shared→Prop}{k:Sem Fin}
  (hk:Builtin.«bytes.__new__» ⟨[.type "bytes",x],[]⟩=k) (h:wpAny (model prog w) A.in1 k (fun fin s'=>match fin with| .done f=>wants Q E (.ok f) s'| .again c'=>c'.quiet=true∧codeAny (model prog w) A c' (wants Q E) s') (fun e s'=>wants Q E (.error e) s') s):
  codeAny (model prog w) A (.call (.builtin "bytes.__new__") ⟨[.type "bytes",x],[]⟩) (wants Q E) s:=by
 refine codeAny_of_tree ?_
 show wpAny _ A.in1 (do checkBuiltinCall "bytes.__new__" ⟨[.type "bytes",x],[]⟩;again (.builtin "bytes.__new__" ⟨[.type "bytes",x],[]⟩)) _ _ s
 refine wpAny_bind (wpAny_of_eq (F.bm_newCall _) (wpAny_pure ⟨plainId_quiet F.bm_plain _,codeAny_builtin F.bm_entry ?_⟩))
 refine rwG (Around.under_plainId F.bm_plain _ ..) ?_;refine rwG (hk ..) ?_
 exact h
theorem bytes_new_ba {a:Addr}{b:List UInt8}{Q:Value→Shared→Prop}(ho:s.heap.get? a=some (bytearrayObj b))(hz:b.length≤16777216)(h: ∀t k,Q (.bytes b.toArray t) {s with toks:=k}):
  codeAny (model prog w) A (.call (.builtin "bytes.__new__") ⟨[.type "bytes",.ref a],[]⟩) (wants Q E) s:=by
 have hT:s.TypeIs (.ref a) "bytearray":=⟨_,ho,rfl⟩
 refine bytes_new_of rfl ?_
 unfold Builtin.«bytes.__new__»
 refine wpAny_bind (wpAny_of_eq (a:=true) rfl ?_)
 refine wp_neg (by decide) ?_
 refine wpAny_bind (wpAny_of_eq F.bm_sub ?_)
 refine wp_neg (by decide) ?_
 refine wpAny_bind (wpAny_of_eq (F.bm_bind _) ?_)
 refine wpAny_bind (wpAny_of_eq (a:=()) rfl ?_)
 refine wpAny_bind (wpAny_of_eq (a:=()) rfl ?_)
 dsimp only
 refine wp_neg (by decide) ?_
 refine wpAny_bind (wpAny_specialOf hT ba_no_bytes ?_)
 refine wpAny_bind (wpAny_bind ?_)
 show wpAny _ _ (load a>>=_) _ _ _
 refine wpAny_bind (wpAny_load ho ?_)
 refine wpAny_pure (wpAny_pure ?_)
 refine wp_neg (by decide) ?_
 refine wpAny_bind (wpAny_specialOf hT ba_no_index ?_)
 refine wp_pos (by rfl) ?_
 first
  |show wpAny _ _ (Builtin.Bytes.buffer? "bytes.__new__" (.ref a) true>>=_) _ _ _
  |(refine wpAny_bind ?_;show wpAny _ _ (Builtin.Bytes.buffer? "bytes.__new__" (.ref a) true>>=_) _ _ _)
 refine wpAny_bind ?_
 unfold Builtin.Bytes.buffer?
 refine wpAny_bind (wpAny_specialOf hT ba_buffer ?_)
 try dsimp only
 refine wpAny_bind (slotIsOwn_ba_buffer ho ?_)
 refine wp_neg (by decide) ?_
 refine wpAny_bind (wpAny_specialOf hT ba_buffer ?_)
 try dsimp only
 refine wpAny_bind (ownRelease_ba ho ?_)
 refine wp_neg (by decide) ?_
 refine wpAny_bind ?_
 unfold Builtin.Bytes.payload Builtin.Bytes.payload?
 refine wpAny_bind (wpAny_bind (wpAny_load ho (wpAny_pure (wpAny_pure ?_))))
 refine wpAny_pure ?_
 refine wpAny_bind (wpAny_rule ?_)
 refine wpAny_bind (wpAny_mkBytes ?_ (by rw [sizeLine_eq];simpa using hz))
 show wpAny _ _ (if (Value.type "bytes"==Value.type "bytes")=true then _ else _) _ _ _
 refine wp_pos (by decide) ?_
 exact wpAny_pure (h _ _)
theorem call_bytes_ba {a:Addr}{b:List UInt8}{Q:Value→Shared→Prop}(ho:s.heap.get? a=some (bytearrayObj b))(hz:b.length≤16777216)(h: ∀t k,Q (.bytes b.toArray t) {s with toks:=k}):
  wpAny (model prog w) A (call (.type "bytes") [.ref a]) Q E s:=by
 refine callType_codes (Q₁:=fun obj s₁=>s₁.TypeIs obj "bytes"∧Q obj s₁) F.bm_called (F.bm_typeCall _) F.entry_object_init (bytes_new_ba ho hz fun t k=>⟨typeIs_bytes _ _ _,h t k⟩) fun obj s₁ h₁=>?_
 exact ⟨h₁.1,F.args_object_init_2 obj _,object_init_meets F.bm_called.init.lookup F.bm_called.made (by decide) prog w A.in1 _ s₁ ⟨h₁.1,rfl,h₁.2⟩⟩
theorem bytes_new_int {n:Int}{u:Tok}{Q:Value→Shared→Prop}(h0:0≤n)(hz:n≤16777216)(h: ∀t k,Q (.bytes (Array.replicate n.toNat 0) t) {s with toks:=k}):
  codeAny (model prog w) A (.call (.builtin "bytes.__new__") ⟨[.type "bytes",.int n u],[]⟩) (wants Q E) s:=by
 have hT:s.TypeIs (.int n u) "int":=rfl
 refine bytes_new_of rfl ?_
 unfold Builtin.«bytes.__new__»
 refine wpAny_bind (wpAny_of_eq (a:=true) rfl ?_)
 refine wp_neg (by decide) ?_
 refine wpAny_bind (wpAny_of_eq F.bm_sub ?_)
 refine wp_neg (by decide) ?_
 refine wpAny_bind (wpAny_of_eq (F.bm_bind _) ?_)
 refine wpAny_bind (wpAny_of_eq (a:=()) rfl ?_)
 refine wpAny_bind (wpAny_of_eq (a:=()) rfl ?_)
 dsimp only
 refine wp_neg (by decide) ?_
 refine wpAny_bind (wpAny_specialOf hT int_no_bytes ?_)
 refine wpAny_bind (wpAny_bind (wpAny_pure (wpAny_pure ?_)))
 refine wp_neg (by decide) ?_
 refine wpAny_bind (wpAny_specialOf hT int_index ?_)
 refine wp_neg (by decide) ?_
 refine wpAny_bind (wpAny_attempt (wpAny_of_eq (a:=n) rfl ?_))
 dsimp only
 have f1:Builtin.Bytes.fitsIndex n=true:=by unfold Builtin.Bytes.fitsIndex;simp only [Bool.and_eq_true,decide_eq_true_eq];lia
 refine rwG (f1 ..) ?_;refine rwG (if_neg (by decide) ..) ?_;refine rwG (if_neg (by exact Int.not_lt_of_ge h0) ..) ?_;refine rwG (if_neg (by lia) ..) ?_
 have f2:Builtin.Bytes.tooLong n.toNat=false:=by unfold Builtin.Bytes.tooLong;rw [sizeLine_eq];exact decide_eq_false (by lia)
 refine rwG (f2 ..) ?_;refine rwG (if_neg (by decide) ..) ?_
 refine wpAny_bind (wpAny_rule ?_)
 refine wpAny_bind (wpAny_mkBytes ?_ (by rw [sizeLine_eq];simp;exact Int.le_def.mpr hz))
 show wpAny _ _ (if (Value.type "bytes"==Value.type "bytes")=true then _ else _) _ _ _
 refine wp_pos (by decide) ?_
 exact wpAny_pure (h _ _)
theorem call_bytes_int {n:Int}{u:Tok}{Q:Value→Shared→Prop}(h0:0≤n)(hz:n≤16777216)(h: ∀t k,Q (.bytes (Array.replicate n.toNat 0) t) {s with toks:=k}):
  wpAny (model prog w) A (call (.type "bytes") [.int n u]) Q E s:=by
 refine callType_codes (Q₁:=fun obj s₁=>s₁.TypeIs obj "bytes"∧Q obj s₁) F.bm_called (F.bm_typeCall _) F.entry_object_init (bytes_new_int h0 hz fun t k=>⟨typeIs_bytes _ _ _,h t k⟩) fun obj s₁ h₁=>?_
 exact ⟨h₁.1,F.args_object_init_2 obj _,object_init_meets F.bm_called.init.lookup F.bm_called.made (by decide) prog w A.in1 _ s₁ ⟨h₁.1,rfl,h₁.2⟩⟩
end
section
variable {G:Gl}{C:Cx}{lv:List (Option AVal)}{σ:Own}{Q:AVal→Own→Prop}{x:Prop}{Qn:List (Option AVal)→Own→Prop}{Qr:AVal→Own→Prop}
theorem CallP.bytesI {n:Int}(h0:0≤n)(hz:n≤16777216)(h:Q (.bytes (List.replicate n.toNat 0)) σ):CallP G C lv σ (.type "bytes") [.int n] Q x:=by
 intro K J m own s cvs S I O r
 refine r.oneE fun _ r1=>?_
 refine r1.intE fun t=>?_
 refine call_bytes_int h0 hz fun t k=>⟨K,own,_,σ,s.heap,k,rfl,fun _ _ e=>e,I,O,?_,h⟩
 rw [←List.toArray_replicate]
 exact .bytes _ _
theorem CallP.bytesA {a:Addr}{j:Nat}{b:List UInt8}(hj:σ[j]?=some (a,.barr b))(hz:b.length≤16777216)(h:Q (.bytes b) σ):CallP G C lv σ (.type "bytes") [.ref a] Q x:=by
 intro K J m own s cvs S I O r
 refine r.oneE fun _ r1=>?_
 refine r1.refE ?_
 have O':=O
 revert I O
 refine O'.barrE hj fun l1 l2 _ I O=>?_
 exact call_bytes_ba (I.mem (List.mem_singleton_self _)) hz fun t k=>⟨K,_,_,σ,s.heap,k,rfl,fun _ _ e=>e,I,O,.bytes _ _,h⟩
theorem Meth.extend {a:Addr}{b:List UInt8}{j:Nat}(hj:σ[j]?=some (a,.barr b)):Meth G C lv σ (.ref a) "extend" (.builtin "bytearray.extend"):=by
 intro K J m own s ca pl Q E S I O r h
 revert h
 refine r.refE fun h=>?_
 have O':=O
 revert I O
 refine O'.barrE hj fun l1 l2 _ I O=>?_
 exact getMethod_builtin ⟨_,I.mem (List.mem_singleton_self _),rfl⟩ plainAttrs_ba slot_ba_extend type_ba_extend (fun a e=>by cases e;exact ⟨_,I.mem (List.mem_singleton_self _),rfl⟩) h
theorem CallN.extend {a:Addr}{b c:List UInt8}{j:Nat}(hj:σ[j]?=some (a,.barr b))(hz:b.length+c.length≤16777216)(h:Q .none (σ.set j (a,.barr (b++c)))):CallN G C lv σ (.builtin "bytearray.extend") [.ref a,.bytes c] Q x:=by
 intro K J m own s cvs S I O r
 refine r.twoE fun _ _ r1 r2=>?_
 refine r1.refE ?_
 refine r2.bytesE fun t=>?_
 revert I
 refine O.barrE hj fun l1 l2 kk I=>?_
 ·refine extend_bytes S.guards (I.mem (List.mem_singleton_self _)) hz fun h' e hs=>?_
  have I2:=I.mut1 (fun b ob n e=>(hs.2 b n).trans e) e
  exact ⟨K,_,.none,_,h',s.toks,rfl,fun _ _ e=>e,I2,kk K _ _ (fun _ _ e=>e) .barr,.none,h⟩
theorem CallN.bytearray (h: ∀a,Q (.ref a) (σ++ [(a,.barr [])])):CallN G C lv σ (.type "bytearray") [] Q x:=by
 intro K J m own s cvs S I O r
 obtain rfl:=r.nilI
 refine call_bytearray S.guards fun h' e kp=>?_
 have g:Grow C.L m s.heap h':=⟨fun b o _ e=>kp b o e,I.ns.keeps kp⟩
 exact ⟨K,_,_,_,h',s.toks,rfl,fun _ _ e=>e,I.ownEnd g (size_none _) e,O.append (by simpa using Owns.cons (OwnRel.barr (P:=G.w.params) (K:=K) (a:=s.heap.objs.size) (b:= [])) .nil),.ref _,h _⟩
theorem ExN.setAttr {o value:Expr}{name:Str}{p pos:Pos}
  (h:EvN G C lv σ value (fun v σ₁=>Ev G C lv σ₁ o (fun w σ₂=> ∃a Cl kvs j,w= .ref a∧σ₂[j]?=some (a,.inst Cl kvs)∧SetOk G.frag Cl name∧kvs.length≤900∧Qn lv (σ₂.set j (a,.inst Cl (putA kvs name v)))) x) x)
  (hs:swapsWith value (some (.Attribute o name p)) pos.line C.env=pure false:=by rfl):ExN G C lv σ (exec (.Assign [.Attribute o name p] value pos) C.env) Qn Qr x:=fun K J m own s S I O=>by
 rw [plainObj_exec_Assign_Attribute o name p value pos hs]
 refine .seq (wpAny_standAt (.bind ?_))
 refine h.seq S I O (fun K₁ own₁ v σ₁ h₁ tk₁ cv k₁ I₁ O₁ r₁ S₁ q₁=>?_) fun _ _ f=>⟨f.1,.flown f.2⟩
 refine .seq (wpAny_mono (Sto.attr (x:=x) q₁ K₁ J m own₁ {s with heap:=h₁,toks:=tk₁} cv S₁ I₁ O₁ r₁) (fun _ s' p=>?_) fun _ _ f=>⟨f.1,f.2.start rfl⟩)
 obtain ⟨K',J',own',lv',σ',m',h',tk',e,k,j,S',I',O',q⟩:=p
 exact .pure ⟨K',J',own',lv',σ',m',h',tk',e,fun a o z=>k _ _ (k₁ _ _ z),j,S',I',O',.inl ⟨rfl,q⟩⟩
end
section
variable {G:Gl}{C:Cx}{lv:List (Option AVal)}{σ:Own}{x:Prop}{Q:AVal→Own→Prop}
theorem Ev.and {e₁ e₂:Expr}{pos:Pos}(h:Ev G C lv σ e₁ (fun v σ₁=> ∃b,v= .bool b∧if b then Ev G C lv σ₁ e₂ Q x else Q (.bool false) σ₁) x):Ev G C lv σ (.BoolOp .And [e₁,e₂] pos) Q x:=fun K J m own s S I O=>by
 refine BoolOp_and (h.seq S I O (fun K₁ own₁ v σ₁ h₁ tk₁ cv k₁ I₁ O₁ r₁ S₁ q₁=>?_) fun _ _ f=>f)
 obtain ⟨b,rfl,q⟩:=q₁
 refine r₁.boolE ?_
 refine wpAny_truthy_bool ?_
 cases b
 ·exact ⟨K₁,own₁,_,σ₁,h₁,tk₁,rfl,k₁,I₁,O₁,.bool _,q⟩
 ·exact BoolOp_one (Run.last q S₁ I₁ O₁ k₁)
theorem Ev.or {e₁ e₂:Expr}{pos:Pos}(h:Ev G C lv σ e₁ (fun v σ₁=> ∃b,v= .bool b∧if b then Q (.bool true) σ₁ else Ev G C lv σ₁ e₂ Q x) x):Ev G C lv σ (.BoolOp .Or [e₁,e₂] pos) Q x:=fun K J m own s S I O=>by
 refine BoolOp_or (h.seq S I O (fun K₁ own₁ v σ₁ h₁ tk₁ cv k₁ I₁ O₁ r₁ S₁ q₁=>?_) fun _ _ f=>f)
 obtain ⟨b,rfl,q⟩:=q₁
 refine r₁.boolE ?_
 refine wpAny_truthy_bool ?_
 cases b
 ·exact BoolOp_one (Run.last q S₁ I₁ O₁ k₁)
 ·exact ⟨K₁,own₁,_,σ₁,h₁,tk₁,rfl,k₁,I₁,O₁,.bool _,q⟩
end
section
variable {G:Gl}{C:Cx}{lv:List (Option AVal)}{σ:Own}{x:Prop}{Qn:List (Option AVal)→Own→Prop}{Qr:AVal→Own→Prop}
theorem VRels.reverse {P:Params}{K:Kept}{vs:List AVal}{cvs:List Value}(h:VRels P K vs cvs):VRels P K vs.reverse cvs.reverse:=by
 induction vs generalizing cvs with
 |nil=>exact h.nilE .nil
 |cons v vs ih=>
  refine h.consE fun _ _ a b=>?_
  rw [List.reverse_cons,List.reverse_cons]
  exact (ih b).append (.cons a .nil)
noncomputable def StosB (G:Gl)(C:Cx)(lv:List (Option AVal))(σ:Own)(ns:List Str)(vs:List AVal)(Qn:List (Option AVal)→Own→Prop)(x:Prop):Prop:=
 ∀K J m own s cvs,Sit G C lv K J m→Inv K J own C.L m s.heap→Owns G.w.params K σ own→VRels G.w.params K vs cvs→
  wpAny (model G.prog G.w) C.A (assignInOrder (ns.map fun n=>bindName C.env n) cvs) (PostS G C K J s fun _ lv σ _=>Qn lv σ) (fun ev s'=>x∧Thrown C s ev s') s
theorem StosB.nil (h:Qn lv σ):StosB G C lv σ [] [] Qn x:=fun K J m own s cvs S I O r=>by
 refine r.nilE ?_
 exact wpAny_pure ⟨K,J,own,lv,σ,m,s.heap,s.toks,rfl,fun _ _ e=>e,fun _ _ e _=>e,S,I,O,h⟩
theorem StosB.cons {y:Str}{ns:List Str}{v:AVal}{vs:List AVal}(i:Nat){k:NameKind}(hn:C.env.scope.names[i]?=some (y,k))
  (hk:C.env.kindOf y=some .local∧C.env.locals=C.L∨(C.env.kindOf y=some .cell∧ ∃c,C.env.cells.lookup y=some c∧C.env.locals=C.L))
  (h:StosB G C (lv.set i (some v)) σ ns vs Qn x) (hd:(y==("__debug__":Str))=false:=by decide):StosB G C lv σ (y::ns) (v::vs) Qn x:=fun K J m own s cvs S I O r=>by
 refine r.consE fun _ _ r rs=>?_
 ·rw [List.map_cons]
  unfold assignInOrder
  refine wpAny_bind (wpAny_holding (wpAny_bindName (wpAny_mono (Sto.bind (x:=x) (Qn:=fun lv' σ'=>lv'=lv.set i (some v)∧σ'=σ) hn hk hd ⟨rfl,rfl⟩ K J m own s _ S I O r) (fun _ s' p=>?_) fun _ _ f=>f)))
  obtain ⟨K',J',own',lv',σ',m',h',tk',rfl,hkk,hj,S',I',O',rfl,rfl⟩:=p
  refine wpAny_mono (h K' J' m' own' {s with heap:=h',toks:=tk'} _ S' I' O' (rs.mono hkk)) (fun _ s' p=>p.from hkk hj) fun _ _ f=>⟨f.1,f.2.start rfl⟩
theorem Ex.assignSwap {elts:List Expr}{x1:Nat}{tp pos:Pos}{e:Expr}(names:List Str)
  (h:Ev G C lv σ e (fun v σ₁=> ∃vs,v= .tup vs∧names.length=vs.length∧StosB G C lv σ₁ names.reverse vs.reverse Qn x) x)
  (hs:swapsWithSole [.Tuple elts x1 tp] e pos.line C.env=pure false:=by rfl)
  (hw:swappedStores [.Tuple elts x1 tp] e C.env=pure (some names):=by rfl):Ex G C lv σ (exec (.Assign [.Tuple elts x1 tp] e pos) C.env) Qn Qr x:=fun K J m own s S I O=>by
 refine Assign_Tuple_swapped (h.seq S I O (fun K₁ own₁ v σ₁ h₁ tk₁ cv k₁ I₁ O₁ r₁ S₁ q₁=>?_) fun _ _ f=>⟨f.1,.flown f.2⟩) hs hw
 obtain ⟨vs,rfl,hl,q⟩:=q₁
 refine r₁.tupE fun a cvs n hk hv=>?_
 have hlen:=hv.length
 have n0:=size_none h₁
 have e0:names.length=cvs.toArray.size:=by rw [List.size_toArray,hlen,hl]
 rw [e0]
 refine unpackItems_tuple (s:={s with heap:=h₁,toks:=tk₁}) S₁.hh (items:=cvs.toArray) ⟨_,I₁.k _ _ hk,rfl,_,rfl⟩ fun h' hx=>?_
 have kp: ∀b o,h₁.get? b=some o→h'.get? b=some o:=fun b o e=>hx b o (fun q=>by subst q;rw [n0] at e;cases e) e
 have g:Grow C.L m h₁ h':=⟨fun b o _ e=>kp b o e,I₁.ns.keeps kp⟩
 refine wpAny_mono (q K₁ J m own₁ {s with heap:=h',toks:=tk₁} cvs.reverse S₁ (I₁.grow g) O₁ hv.reverse) (fun _ s' p=>?_) fun _ _ f=>⟨f.1,Thrown.start (h:=h') (tk:=tk₁) rfl f.2⟩
 obtain ⟨K',J',own',lv',σ',m',h2,tk',e,k,j,S',I',O',q'⟩:=p
 exact ⟨K',J',own',lv',σ',m',h2,tk',e,fun a o z=>k _ _ (k₁ _ _ z),j,S',I',O',.inl ⟨rfl,q'⟩⟩
end
section
variable {G:Gl}{C:Cx}{lv:List (Option AVal)}{σ:Own}{x:Prop}{Qn:List (Option AVal)→Own→Prop}{Qr:AVal→Own→Prop}
theorem Ex.while {test:Expr}{body:List Stmt}{pos:Pos}(n:Nat)(Φ:Nat→List (Option AVal)→Own→Prop)(h0:Φ n lv σ)
  (turn: ∀n lv σ,Φ n lv σ→Tst G C lv σ test (fun b σ₁=>if b then Ex G C lv σ₁ (execs body C.env) (fun lv' σ'=> ∃k,k<n∧Φ k lv' σ') Qr x else Qn lv σ₁) x)
  (hE:C.env=C.fenv:=by rfl):Ex G C lv σ (exec (.While test body [] pos) C.env) Qn Qr x:=fun K J m own s S I O=>by
 refine wpAny_While ?_
 refine codeAny_whileLoop (fun k s'=>PostS G C K J s (fun _ lv σ _=>Φ k lv σ) () s') ?_ n ⟨K,J,own,lv,σ,m,s.heap,s.toks,rfl,fun _ _ e=>e,fun _ _ e _=>e,S,I,O,h0⟩
 rintro k s' ⟨K',J',own',lv',σ',m',h',tk',rfl,hk,hj,S',I',O',hΦ⟩
 refine Run.seq (turn k lv' σ' hΦ) (s:={s with heap:=h',toks:=tk'}) S' I' O' (fun K₁ own₁ b σ₁ h₁ tk₁ a k₁ I₁ O₁ r₁ S₁ q₁=>?_) fun ev s₁ f=>Thrown.noted S hE f.1 (.flown (f.2.start rfl))
 subst r₁
 cases a
 ·rw [if_neg (by decide)] at q₁⊢
  exact wpAny_execs_nil ⟨K₁,J',own₁,lv',σ₁,m',h₁,tk₁,rfl,fun a o z=>k₁ _ _ (hk _ _ z),hj,S₁,I₁,O₁,.inl ⟨rfl,q₁⟩⟩
 ·rw [if_pos rfl] at q₁⊢
  refine wpAny_mono (q₁ K₁ J' m' own₁ {s with heap:=h₁,toks:=tk₁} S₁ I₁ O₁) (fun fl s₂ p=>?_) fun ev s₂ f=>Thrown.noted S hE f.1 (f.2.start rfl)
  obtain ⟨K₂,J₂,own₂,lv₂,σ₂,m₂,h₂,tk₂,rfl,k₂,j₂,S₂,I₂,O₂,q⟩:=p
  have hK: ∀a o,K a o→K₂ a o:=fun a o z=>k₂ _ _ (k₁ _ _ (hk _ _ z))
  have hJ: ∀a o,J a o→a∉C.cells→J₂ a o:=fun a o z nc=>j₂ _ _ (hj _ _ z nc) nc
  rcases q with ⟨rfl,i,hi,q⟩|⟨cv,v,rfl,rv,q⟩
  ·exact ⟨i,hi,K₂,J₂,own₂,lv₂,σ₂,m₂,h₂,tk₂,rfl,hK,hJ,S₂,I₂,O₂,q⟩
  ·exact ⟨K₂,J₂,own₂,lv₂,σ₂,m₂,h₂,tk₂,rfl,hK,hJ,S₂,I₂,O₂,.inr ⟨cv,v,rfl,rv,q⟩⟩
end
theorem xe_own :classOwn (.type "Exception") "__init__"=pure (some (.builtin "Exception.__init__")):=by
 first
  |kernel_rfl
  |(unfold classOwn;kernel_rfl)
theorem xe_typeOf :typeOf (.builtin "Exception.__init__")=pure (.type "wrapper_descriptor"):=by
 first
  |kernel_rfl
  |(unfold typeOf;kernel_rfl)
theorem xe_slot :Slot "wrapper_descriptor" "__get__" "wrapper_descriptor.__get__":= .of (owner:= "wrapper_descriptor") (n:= "__get__") (by rw [typeLookup_type,builtinLookup_eq_fast];kernel_rfl) (by decide+kernel) (by decide+kernel) (by decide+kernel)
 (by first|exact .inl (by decide+kernel)|exact .inr (by decide+kernel)) (by rw [isSubtype_type];kernel_rfl)
theorem xe_entry :entryFor table "wrapper_descriptor.__get__"=some Builtin.«wrapper_descriptor.__get__»:=entryFor_of_tree (by kernel_rfl)
theorem xe_args (a b c:Value):argsOk "wrapper_descriptor.__get__" ⟨[a,b,c],[]⟩:=by unfold argsOk;kernel_rfl
section
variable {prog:Program}{w:World}{M:Model}{A:Around}{E:Value→Shared→Prop}{h:Heap}{g:Array GenState}{d:Drawn}{t:Nat}{os:OsState}
theorem xe_super_ga {so D x C:Addr}{ox:Obj}{l₀:List Value}{tk:Tok}{Q:Fin→Shared→Prop}
  (hso:h.get? so=some {cls:= .type "super",dict:=none,data:= .fields #[.ref D,.ref x,.ref C],slots:= #[]}) (hno:Looks (model prog w) h (opaqueClassAbove (.ref C)) none)
  (hC:Looks (model prog w) h (mroOf (.ref C)) l₀) (hl:(l₀.dropWhile (·!= .ref D)).drop 1= [.type "Exception",.type "BaseException",.type "object"])
  (hxC:x≠C) (hx:h.get? x=some ox) (hcx:ox.cls= .ref C) (hsub:Looks (model prog w) h (isSubtype (.ref C) (.type "Exception")) true)
  (hq:Q (.done (.ret (.ref h.objs.size))) ⟨h.push {cls:= .type "method-wrapper",data:= .fields #[.builtin "Exception.__init__",.ref x]},g,d,t,os⟩):
  wpAny (model prog w) A (Builtin.«super.__getattribute__» ⟨[.ref so,.str "__init__" tk],[]⟩) Q E ⟨h,g,d,t,os⟩:=by
 have hlk:=xe_slot.lookup
 have hn:(("__init__":Str)==("__class__":Str))=false:=by decide
 have hne:(Value.ref x==Value.ref C)=false:=by simp [hxC]
 have hTf:(⟨h,g,d,t,os⟩:Shared).TypeIs (.builtin "Exception.__init__") "wrapper_descriptor":=xe_typeOf
 have hdt:({cls:= .type "super",dict:=none,data:= .fields #[.ref D,.ref x,.ref C],slots:= #[]}:Obj).data= .fields #[.ref D,.ref x,.ref C]:=rfl
 have f0:(#[.ref D,.ref x,.ref C]:Array Value)[0]?=some (.ref D):=rfl
 have f1:(#[.ref D,.ref x,.ref C]:Array Value)[1]?=some (.ref x):=rfl
 have f2:(#[.ref D,.ref x,.ref C]:Array Value)[2]?=some (.ref C):=rfl
 unfold Builtin.«super.__getattribute__»
 iterate 30 (first
  |(with_reducible refine wpAny_field hso hdt f0 ?_)|(with_reducible refine wpAny_field hso hdt f1 ?_)|(with_reducible refine wpAny_field hso hdt f2 ?_)
  |(with_reducible refine ks_wpAny_notOpaque hno ?_)
  |(with_reducible refine Looks.at hC ?_;rw [hl])
  |(simp only [hn,Bool.or_false])
  |wp_step)
 refine wpAny_of_eq xe_own ?_
 refine wpAny_bind (wpAny_typeOf hTf ?_)
 refine wpAny_bind (wpAny_of_eq hlk ?_)
 rw [hne,if_neg Bool.false_ne_true]
 refine wpAny_bind (wpAny_holding ?_)
 refine wpAny_call_entry xe_slot hTf xe_entry ?_ (xe_args _ _ _)
 unfold Builtin.«wrapper_descriptor.__get__»
 have hsub':Looks (model prog w) h (isSubtype (.ref C) (.type (".".intercalate (("Exception.__init__":String).cutAt '.').dropLast))) true:=by
  have e: ".".intercalate (("Exception.__init__":String).cutAt '.').dropLast= "Exception":=by decide+kernel
  rw [e];exact hsub
 iterate 40 (first
  |(with_reducible refine wpAny_loadPart_at hx ?_;rw [hcx])
  |(with_reducible refine Looks.at hsub' ?_)
  |(with_reducible refine ⟨_,rfl,?_⟩)
  |wp_step)
 exact wpAny_pure (wpAny_pure hq)
end
section
variable {prog:Program}{w:World}{M:Model}{A:Around}{E:Value→Shared→Prop}{h:Heap}{g:Array GenState}{d:Drawn}{t:Nat}{os:OsState}
theorem xe_getMethod_super {so D x C:Addr}{ox:Obj}{l₀:List Value}{pl:Sem Bool}{Q:Value×List Value→Shared→Prop}
  (hso:h.get? so=some {cls:= .type "super",dict:=none,data:= .fields #[.ref D,.ref x,.ref C],slots:= #[]}) (hno:Looks (model prog w) h (opaqueClassAbove (.ref C)) none)
  (hC:Looks (model prog w) h (mroOf (.ref C)) l₀) (hl:(l₀.dropWhile (·!= .ref D)).drop 1= [.type "Exception",.type "BaseException",.type "object"])
  (hxC:x≠C) (hx:h.get? x=some ox) (hcx:ox.cls= .ref C) (hsub:Looks (model prog w) h (isSubtype (.ref C) (.type "Exception")) true)
  (hq:Q (.ref h.objs.size,[]) ⟨h.push {cls:= .type "method-wrapper",data:= .fields #[.builtin "Exception.__init__",.ref x]},g,d,t+1,os⟩):
  wpAny (model prog w) A (getMethod (.ref so) "__init__" pl) Q E ⟨h,g,d,t,os⟩:=by
 have hlk:=F.ks_slot_super_ga.lookup
 have hcan:=F.ks_canon_super_ga
 have hT: ∀t',(⟨h,g,d,t',os⟩:Shared).TypeIs (.ref so) "super":=fun _=>⟨_,hso,rfl⟩
 unfold getMethod
 refine wpAny_bind (wpAny_specialOf (hT _) hlk ?_)
 show wpAny _ _ (if (Manifest.canonical "super.__getattribute__" != "object.__getattribute__")=true then _ else _) _ _ _
 rw [if_pos hcan]
 unfold getAttr getAttrBy
 refine wpAny_bind (wpAny_bind (wpAny_mkText (wpAny_holding (wpAny_bind (wpAny_typeOf (hT _) (wpAny_bind (wpAny_of_eq hlk ?_)))))))
 show wpAny _ _ (getAttrByItsOwn (.ref so) (.str "__init__" t) (.type "super") (.builtin "super.__getattribute__") true false) _ _ _
 unfold getAttrByItsOwn hookBefore callGetattribute boundAndCalled
 refine wpAny_bind (wpAny_of_eq (show (if onTheHeap (.type "super") then typeLookup (.type "super") "__getattr__" else pure none)=pure none from rfl) ?_)
 refine wpAny_bind (wpAny_attempt (wpAny_holding ?_))
 show wpAny _ _ (bindSpecial (.builtin "super.__getattribute__") (.ref so)>>=_) _ _ _
 refine wpAny_bind (wpAny_of_eq (F.ks_slot_super_ga.bind _) ?_)
 refine wpAny_mono (Q:=fun v s'=>v= .ref h.objs.size∧s'=⟨h.push {cls:= .type "method-wrapper",data:= .fields #[.builtin "Exception.__init__",.ref x]},g,d,t+1,os⟩) (E:=fun _ _=>False)
  (wpAny_call_entry F.ks_slot_super_ga (hT _) F.ks_entry_super_ga (xe_super_ga hso hno hC hl hxC hx hcx hsub ⟨_,rfl,rfl,rfl⟩) (F.ks_gaArgs_super _ _)) (fun v s' hv=>?_) fun _ _ z=>z.elim
 obtain ⟨rfl,rfl⟩:=hv
 exact wpAny_pure (wpAny_pure hq)
theorem xe_check {nm q:Str}{C N:Addr}{bs bm:List Value}{hdct:Bool}{sn:List Str}{sub:List Value}{ab:Bool}{col:Option Bool}{dd:Option Addr}{k0 k1 k2 k3 k5:Option Value}{newId:String}
  {e:Addr}{oe:Obj}{v:Value}{Q:Unit→Shared→Prop}
  (hbm:bm.contains (.type "Exception")=true)
  (hC:h.get? C=some (excClassObj nm q C N bs bm hdct sn sub ab col dd k0 k1 k2 k3 k5 newId)) (he:h.get? e=some oe) (hcls:oe.cls= .ref C) (hq:Q () ⟨h,g,d,t,os⟩):
  wpAny M A (checkBoundCall "Exception.__init__" ⟨[.ref e,v],[]⟩) Q E ⟨h,g,d,t,os⟩:=by
 have F:=F.excBase_Exception
 have hcB:(Value.ref C::bm).contains (.type "Exception")=true:=by rw [List.contains_cons,hbm,Bool.or_true]
 have hshort:=F.noStar
 unfold checkBoundCall
 simp only [F.initRow,F.initKind]
 rw [if_pos (by decide)]
 repeat (first|(with_reducible refine wpAny_loadPart_at he ?_;rw [hcls])|(with_reducible refine wpAny_loadPart_at hC ?_)|wp_step)
 exact hq
end
section
variable {prog:Program}{w:World}{M:Model}{A:Around}{E:Value→Shared→Prop}{h:Heap}{g:Array GenState}{d:Drawn}{t:Nat}{os:OsState}
theorem xe_call_bound {nm q:Str}{C N:Addr}{bs bm:List Value}{hdct:Bool}{sn:List Str}{sub:List Value}{ab:Bool}{col:Option Bool}{dd:Option Addr}{k0 k1 k2 k3 k5:Option Value}{newId:String}
  {mw e t0:Addr}{ed:Option Addr}{v:Value}{ots:Obj}{Q:Value→Shared→Prop}
  (hbm:bm.contains (.type "Exception")=true)
  (hC:h.get? C=some (excClassObj nm q C N bs bm hdct sn sub ab col dd k0 k1 k2 k3 k5 newId))
  (hmw:h.get? mw=some {cls:= .type "method-wrapper",data:= .fields #[.builtin "Exception.__init__",.ref e]})
  (he:h.get? e=some {cls:= .ref C,dict:=ed,data:= .fields #[.ref t0,.none,.none,.none,.bool false,.none]})
  (ht0:h.get? t0=some ots) (hots:ots.cls= .type "tuple")
  (hq: ∀h',h'.get? e=some {cls:= .ref C,dict:=ed,data:= .fields #[.ref h.objs.size,.none,.none,.none,.bool false,.none]}→h'.get? h.objs.size=some (seqObj "tuple" [v] 0)→
   (∀y o,y≠e→h.get? y=some o→h'.get? y=some o)→Q .none ⟨h',g,d,t,os⟩):
  wpAny (model prog w) A (call (.ref mw) [v]) Q E ⟨h,g,d,t,os⟩:=by
 have F:=F.excBase_Exception
 refine wpAny_call (codeAny_of_tree ?_)
 show wpAny _ A.in1 (callAny (.ref mw) ⟨[v],[]⟩) _ _ _
 unfold callAny
 refine wpAny_bind (wpAny_load hmw ?_)
 show wpAny _ _ (checkBoundCall "Exception.__init__" ⟨[.ref e,v],[]⟩>>=_) _ _ _
 refine wpAny_bind (xe_check hbm hC he rfl ?_)
 refine wpAny_pure ⟨Code.quiet_builtin _ (by decide+kernel),?_⟩
 refine codeAny_builtin F.initEntry ?_
 unfold Builtin.«BaseException.__init__»
 repeat wp_step
 have hne:e≠h.objs.size:=Nat.ne_of_lt (Heap.lt_size he)
 have he':(h.push {cls:=Value.type "tuple",data:=Data.seq #[v]}).get? e=some {cls:= .ref C,dict:=ed,data:= .fields #[.ref t0,.none,.none,.none,.bool false,.none]}:=Heap.get?_push_of_some _ he
 refine hq _ ?_ ?_ fun y o hy ey=>?_
 ·rw [Heap.get?_update_self _ he' (Obj.isFreed_of_fields (Obj.data_mapFields rfl _))]
  rfl
 ·exact (Heap.get?_update_other _ _ hne).trans (Heap.get?_push_at rfl rfl)
 ·exact (Heap.get?_update_other _ _ (Ne.symm hy)).trans (Heap.get?_push_of_some _ ey)
end
section
variable {prog:Program}{w:World}{M:Model}{A:Around}{E:Value→Shared→Prop}{h:Heap}{g:Array GenState}{d:Drawn}{t:Nat}{os:OsState}{K:Frag}
theorem xe_osa_open {x C:Addr}{ox:Obj}{od:Option Obj}{name:Str}{tk:Tok}{v:Value}{cd:ClassData}{b1 b2:Addr}{R:Result→Shared→Prop}{s:Shared}(X:K.In s.heap)(I:PySem.W.InstAt s.heap x ox C od)(hc:W.clsIn K C=some cd)(hm0:cd.mro= [.ref b1,.ref b2,.type "Exception",.type "BaseException",.type "object"])
  (ho:mroIn K C (.type "object")=some true) (ht:takerIn K C name=some none)
  (h: ∀b,wpAny (model prog w) A.in1 (Builtin.ObjectAttr.storeInOwnDict (.ref x) (.ref C) (.str name tk) name v b)
   (fun fin s'=>match fin with| .done f=>R (.ok f) s'| .again c'=>c'.quiet=true∧codeAny (model prog w) A c' R s') (fun e s'=>R (.error e) s') s):
  codeAny (model prog w) A (.call (.builtin "object.__setattr__") ⟨[.ref x,.str name tk,v],[]⟩) R s:=by
 have SF:=PySem.F.store_Exception
 have SO:=PySem.F.store_object
 have sub:Looks (model prog w) s.heap (isInstance (.ref x) (.type "object")) true:=I.type.andThen (looks_mroIn X ho)
 refine codeAny_call_builtin SO.slot.plain SO.entry (@check_slot (model prog w) _ _ s "object.__setattr__" "object" "__setattr__" (.ref x) [.str name tk,v] [] _ SO.kind SO.split sub (SO.args (.ref x) (.str name tk) v) ?_)
 obtain ⟨attr,ha,hr⟩:=Option.bind_eq_some_iff.mp ht
 have hm:Looks (model prog w) s.heap (mroOf (.ref C)) cd.mro:=(looks_clsIn X hc).andThen .now
 have L3:Looks (model prog w) s.heap (Builtin.ObjectAttr.storeTaker? attr) none:=by
  cases attr with
  |none=>exact .now
  |some a=>
   obtain ⟨b,hb,hbn⟩:=Option.map_eq_some_iff.mp hr
   refine (looks_takesIn X hb).andThen ?_
   cases b
   ·exact .now
   ·cases hbn
 rw [osa_eq,refuse_eq]
 refine wpAny_bind (wpAny_bind (I.type.here (wpAny_bind (hm.here ?_))))
 rw [hm0,refuseLoop_ref,refuseLoop_ref,SF.passes]
 refine wpAny_pure (wpAny_bind (I.type.here (wpAny_bind ((looks_findIn X ha).here (wpAny_bind (L3.here ?_))))))
 exact h _
inductive DictAt (h:Heap)(x:Addr):Option Addr→List Str→Prop where
 |none:DictAt h x none []
 |some {dx:Addr}{mA:Str→Option Value}{ns:List Str}(hn:h.Ns1 dx mA) (hw:Within mA ns) (hne:dx≠x):DictAt h x (some dx) ns
theorem xe_setAttr {x C:Addr}{od:Option Addr}{fs:Array Value}{sl:Array (Option Value)}{name:Str}{v:Value}{ns:List Str}{Q:Unit→Shared→Prop}
  (X:K.In h) (hx:h.get? x=some {cls:= .ref C,dict:=od,data:= .fields fs,slots:=sl}) (D:DictAt h x od ns) (hz:ns.length≤1000)
  (hs:findIn K (.ref C) "__setattr__"=some (some (.builtin "object.__setattr__"))) {cd:ClassData}{b1 b2:Addr}(hc:W.clsIn K C=some cd) (hm0:cd.mro= [.ref b1,.ref b2,.type "Exception",.type "BaseException",.type "object"]) (ho:mroIn K C (.type "object")=some true) (ht:takerIn K C name=some none) (hd':cd.hasDict=true)
  (hq: ∀h' dx tk',h'.get? x=some {cls:= .ref C,dict:=some dx,data:= .fields fs,slots:=sl}→DictAt h' x (some dx) (name::ns)→
   (∀b o,b≠x→od≠some b→h.get? b=some o→h'.get? b=some o)→(od=some dx∨h.get? dx=none)→Q () ⟨h',g,d,tk',os⟩):
  wpAny (model prog w) A (setAttr (.ref x) name v) Q E ⟨h,g,d,t,os⟩:=by
 have hno:notCls {cls:= .ref C,dict:=od,data:= .fields fs,slots:=sl}=true:=by
  rfl
 cases D with
 |none=>
  have I:PySem.W.InstAt h x {cls:= .ref C,dict:=none,data:= .fields fs,slots:=sl} C none:=⟨hx,rfl,hno,trivial⟩
  refine set_plain (s:=⟨h,g,d,t,os⟩) X I hs ?_
  refine xe_osa_open (s:=⟨h,g,d,t+1,os⟩) X I hc hm0 ho ht fun b=>?_
  have hx₁:(h.push {cls:= .type "dict",data:= .dict #[]}).get? x=some {cls:= .ref C,dict:=none,data:= .fields fs,slots:=sl}:=Heap.get?_push_of_some _ hx
  have hxs:x≠h.objs.size:=Nat.ne_of_lt (Heap.lt_size hx)
  refine wpAny_bind (wpAny_pure (wpAny_bind (wpAny_bind (wpAny_loadPart hx (wpAny_bind ((looks_clsIn X hc).here ?_))))))
  rw [hd']
  refine wpAny_bind (wpAny_alloc' ?_)
  refine wpAny_bind (wpAny_update' hx₁ ?_)
  refine wpAny_pure ?_
  have hgd:((h.push {cls:= .type "dict",data:= .dict #[]}).update x fun o=>{cls:=o.cls,dict:=some h.objs.size,data:=o.data,slots:=o.slots}).get? h.objs.size=some {cls:= .type "dict",data:= .dict #[]}:=
   (Heap.get?_update_ne _ _ _ _ hxs.symm).trans (Heap.get?_push_at rfl rfl)
  have hnd:((h.push {cls:= .type "dict",data:= .dict #[]}).update x fun o=>{cls:=o.cls,dict:=some h.objs.size,data:=o.data,slots:=o.slots}).Ns h.objs.size (fun _=>none):=
   ⟨_,#[],_,hgd,rfl,fun e he=>absurd he (by simp),fun _=>rfl⟩
  show wpAny _ _ (Builtin.ObjectAttr.storeInDict h.objs.size (.str name _) name v) _ _ _
  unfold Builtin.ObjectAttr.storeInDict Builtin.ObjectAttr.newKeyGuard
  refine wpAny_bind (wpAny_pure (wpAny_bind (wpAny_nsSet1 (Heap.Ns1.of_empty hnd) fun h' hn' hs'=>?_)))
  refine hideG fun M kM=>?_
  obtain ⟨oD,esD,epD,hoD,hdD,hcD⟩:=hn'.count (Within.cons name v Within.nil)
  refine kM ?_
  clear kM
  refine wpAny_bind (wpAny_lookBehind hoD (by rw [hdD];exact pastItsLine_dict (Nat.le_trans hcD (by rw [List.length_cons,List.length_nil,sizeLine_eq];exact Nat.le_add_left (0+1) 16777216))) ?_)
  refine wpAny_pure ?_
  refine hq h' h.objs.size _ ?_ (.some hn' (Within.cons name v Within.nil) (Ne.symm hxs)) (fun b ob hbx _ hb=>?_) (.inr (size_none h))
  ·exact (hs'.2 x hxs).trans (Heap.get?_update_self _ hx₁ rfl)
  ·exact (hs'.2 b (Nat.ne_of_lt (Heap.lt_size hb))).trans ((Heap.get?_update_ne _ _ _ _ hbx).trans (Heap.get?_push_of_some _ hb))
 |some hn hw hne=>
  rename_i dx mA
  have hod: ∃oD,h.get? dx=some oD:=let ⟨o,_,_,e,_⟩:=hn;⟨o,e⟩
  obtain ⟨oD,hoD⟩:=hod
  have I:PySem.W.InstAt h x {cls:= .ref C,dict:=some dx,data:= .fields fs,slots:=sl} C (some oD):=⟨hx,rfl,hno,hoD⟩
  refine set_plain (s:=⟨h,g,d,t,os⟩) X I hs ?_
  refine xe_osa_open (s:=⟨h,g,d,t+1,os⟩) X I hc hm0 ho ht fun b=>?_
  refine wpAny_bind (wpAny_pure (wpAny_bind (wpAny_bind (wpAny_loadPart hx (wpAny_bind ((looks_clsIn X hc).here ?_))))))
  rw [hd']
  refine wpAny_pure (a:=some dx) (wpAny_bind (wpAny_pure (wpAny_bind ?_)))
  refine wpAny_nsSet1 hn fun h' hn' hs'=>?_
  refine hideG fun M kM=>?_
  obtain ⟨oD',esD,epD,hoD',hdD,hcD⟩:=hn'.count (Within.cons name v hw)
  refine kM ?_
  clear kM
  refine wpAny_bind (wpAny_lookBehind hoD' (by rw [hdD];exact pastItsLine_dict (Nat.le_trans hcD (by rw [List.length_cons,sizeLine_eq];lia))) ?_)
  exact wpAny_pure (hq h' dx _ ((hs'.2 x (Ne.symm hne)).trans hx) (.some hn' (Within.cons name v hw) hne) (fun b o _ hb e=>(hs'.2 b fun q=>hb (by rw [q])).trans e) (.inl rfl))
end
structure ProgOk (p:Program):Prop where
 file:((p.main.file:Str)==("/claim/cut.py":Str))=true
 sup:(p.main.scope.names.lookup ("super":Str)).isSome=false
noncomputable abbrev shapeFn (G:Gl):FuncData:={(D_ShapeError__init_ G).fn with closure:= [("__class__",25)]}
noncomputable abbrev excObj (d:Option Addr)(t:Addr):Obj:={cls:= .ref clsFont,dict:=d,data:= .fields #[.ref t,.none,.none,.none,.bool false,.none]}
noncomputable abbrev bmFont :List Value:= [.ref 48,.type "Exception",.type "BaseException",.type "object"]
section
variable {G:Gl}{A:Around}{E:Value→Shared→Prop}{h:Heap}{g:Array GenState}{d:Drawn}{t:Nat}{os:OsState}
theorem xe_classC (hG:G.frag=KF G.w.params)(X:G.frag.In h):h.get? 73=some (excClassObj "FontFault" "FontFault" 73 72 [.ref 48] bmFont true [] [] false none none (some (.ref 64)) none (some (.str "FontFault" 254)) (some (.str "FontFault" 262)) (some (.bool true)) "Exception.__new__"):=X _ _ (by rw [hG];rfl)
theorem xe_shape_init (hG:G.frag=KF G.w.params)(hP:ProgOk G.prog)(Z:Glo G h)(hroom:A.depth<recursionLimit){e t0:Addr}{what at_:Value}{rest:List Value}{ots:Obj}{Q:Value→Shared→Prop}
  (hb:BindsTo ⟨h,g,d,t,os⟩ (shapeFn G) ⟨.ref e::rest,[]⟩ [("self",.ref e),("what",what),("at",at_)])
  (he:h.get? e=some (excObj none t0)) (hnew: ∀a o,G.frag.lookup a=some o→a≠e) (ht0:h.get? t0=some ots) (hots:ots.cls= .type "tuple")
  (hq: ∀h' dx t1 tk',h'.get? e=some (excObj (some dx) t1)→h.get? t1=none→t1≠e→h'.get? t1=some (seqObj "tuple" [what] 0)→(∀y o,y≠e→h.get? y=some o→h'.get? y=some o)→Q .none ⟨h',g,d,tk',os⟩):
  wpAny (model G.prog G.w) A (call (.ref 38) (.ref e::rest)) Q E ⟨h,g,d,t,os⟩:=by
 have X:=Z.frag
 have hC:=xe_classC hG X
 refine wpAny_call (ks_codeAny_call_defAt (fd:=shapeFn G) (body:=(D_ShapeError__init_ G).body) (binds:= [("self",.ref e),("what",what),("at",at_)]) hroom (X 38 _ (by rw [hG];rfl)) rfl Z.nolimit (codeRec_of X (by rw [hG];rfl)) rfl hb ?_ ?_ (fun h₁ hns hk₁=>?_))
 ·show ∀x∈S_ShapeError__init_.names,x.2≠ .cell
  decide
 ·intro x hx
  simp only [List.mem_cons,List.not_mem_nil,or_false] at hx
  rcases hx with rfl|rfl|rfl<;>rfl
 have Z₁:=Z.keeps hk₁
 have X₁:=Z₁.frag
 have he₁:=hk₁ _ _ he
 have eL:e≠h.objs.size:=Nat.ne_of_lt (Heap.lt_size he)
 refine ks_wpAt_execs_cons (ks_wpAt_Expr_any (ks_wpAt_MethodCall ?_))
 refine ks_wpAt_super_base (f:=38) (fd:=shapeFn G) (cc:=37) rfl rfl rfl rfl (X₁ _ _ (by rw [hG];rfl)) rfl rfl rfl (X₁ _ _ (by rw [hG];rfl)) rfl rfl hP.file hP.sup ?_
 refine ks_loadName_global rfl rfl (loadGlobal_builtin Z₁.g (mg_none_of Z₁.frag Z₁.g (ns_super hG)) Z₁.b ((Z₁.builtins _ (by decide)).trans rfl) ⟨rfl,?_⟩)
 refine wpAny_loadName_free rfl rfl rfl ⟨_,X₁ 25 _ (by rw [hG];rfl),rfl⟩ ?_
 refine wpAny_loadName_local rfl rfl hns rfl ?_
 refine ks_wpAny_isType_cls (X₁ 48 _ (by rw [hG];rfl)) rfl ⟨rfl,?_⟩
 refine ks_wpAny_call_super (X₁ 48 _ (by rw [hG];rfl)) rfl he₁ rfl (fun c q=>by cases q) (looks_mroIn X₁ (by rw [hG];rfl)) (fun h₂ e₂ k₂=>?_)
 have X₂:=X₁.keeps k₂
 have he₂:=k₂ _ _ he₁
 refine xe_getMethod_super e₂ (looks_opaque X₂ (by rw [hG];rfl)) (l₀:= .ref 73::bmFont) ?_ rfl ?_ he₂ rfl (looks_mroIn X₂ (by rw [hG];rfl)) ?_
 ·obtain ⟨cd,hc,hm⟩: ∃cd,W.clsIn G.frag 73=some cd∧cd.mro= .ref 73::bmFont:=by rw [hG];exact ⟨_,rfl,rfl⟩
  rw [←hm]
  exact fun A Q E s k q=>wpAny_bind ((looks_clsIn X₂ hc) A _ E s k (wpAny_pure q))
 ·rintro rfl
  rw [hC] at he
  exact nomatch (Option.some.inj he)
 have kp3: ∀b o,h₁.get? b=some o→(h₂.push {cls:= .type "method-wrapper",data:= .fields #[.builtin "Exception.__init__",.ref e]}).get? b=some o:=fun b o q=>Heap.get?_push_of_some _ (k₂ _ _ q)
 have hmw:(h₂.push {cls:= .type "method-wrapper",data:= .fields #[.builtin "Exception.__init__",.ref e]}).get? h₂.objs.size=some {cls:= .type "method-wrapper",data:= .fields #[.builtin "Exception.__init__",.ref e]}:=Heap.get?_push_at rfl rfl
 have hmwn:h.get? h₂.objs.size=none:=by
  cases q:h.get? h₂.objs.size with
  |none=>rfl
  |some o=>exact absurd (Heap.lt_size (k₂ _ _ (hk₁ _ _ q))) (Nat.lt_irrefl _)
 generalize (h₂.push {cls:= .type "method-wrapper",data:= .fields #[.builtin "Exception.__init__",.ref e]})=h₃ at kp3 hmw
 generalize h₂.objs.size=mw at hmw hmwn
 have hns3:=hns.keeps kp3
 refine callWith_all (P:=fun h=>h.get? mw=some {cls:= .type "method-wrapper",data:= .fields #[.builtin "Exception.__init__",.ref e]}) (fun h' e'=>⟨.machine,.inr (.inl rfl),?_⟩) ?_ rfl
 ·refine Looks.andThen (a:={cls:= .type "method-wrapper",data:= .fields #[.builtin "Exception.__init__",.ref e]}) (Looks.ld e') ?_
  exact .now
 refine args_cons (wpAny_Name (wpAny_loadName_local rfl rfl hns3 rfl ?_) (by decide)) rfl
 refine spliced_nil ?_
 refine ⟨hmw,?_⟩
 have hC3:=kp3 _ _ (hk₁ _ _ hC)
 refine xe_call_bound (bm:=bmFont) (by decide) hC3 hmw (kp3 _ _ he₁) (kp3 _ _ (hk₁ _ _ ht0)) hots ?_
 intro h₄ e₄ t₄ k₄
 have t1e:h₃.objs.size≠e:=fun q=>by
  have:=Heap.lt_size (kp3 _ _ he₁)
  rw [q] at this
  exact absurd this (Nat.lt_irrefl _)
 have t1n:h.get? h₃.objs.size=none:=by
  cases q:h.get? h₃.objs.size with
  |none=>rfl
  |some o=>exact absurd (Heap.lt_size (kp3 _ _ (hk₁ _ _ q))) (Nat.lt_irrefl _)
 generalize h₃.objs.size=t1 at e₄ t₄ t1e t1n
 have kp4: ∀y o,y≠e→h.get? y=some o→h₄.get? y=some o:=fun y o n q=>k₄ y o n (kp3 _ _ (hk₁ _ _ q))
 have X₄:G.frag.In h₄:=fun a o z=>kp4 _ _ (hnew a o z) (X _ _ z)
 have hns4:h₄.Ns h.objs.size (fun x=>([("self",.ref e),("what",what),("at",at_)]:List (Str×Value)).reverse.lookup x):=hns3.at' fun o q=>k₄ _ _ (Ne.symm eL) q
 obtain ⟨cd,hc,hm0,hdd⟩: ∃cd,W.clsIn G.frag 73=some cd∧cd.mro= [.ref 73,.ref 48,.type "Exception",.type "BaseException",.type "object"]∧cd.hasDict=true:=by rw [hG];exact ⟨_,rfl,rfl,rfl⟩
 refine ks_wpAt_execs_cons (ks_wpAt_Assign_Attr ?_)
 refine wpAt_of_wpAny (wpAny_Name (wpAny_loadName_local rfl rfl hns4 rfl ?_) (by decide))
 refine wpAny_Name (wpAny_loadName_local rfl rfl hns4 rfl ?_) (by decide)
 refine xe_setAttr X₄ e₄ .none (by decide) (by rw [hG];rfl) hc hm0 (by rw [hG];rfl) (by rw [hG];rfl) hdd fun h₅ dx tk5 e₅ D₅ k₅ dn=>?_
 have X₅:G.frag.In h₅:=fun a o z=>k₅ _ _ (hnew a o z) (fun q=>nomatch q) (X₄ _ _ z)
 have hns5:=hns4.at' fun o q=>k₅ _ o (Ne.symm eL) (fun q=>nomatch q) q
 have t₅:=k₅ _ _ t1e (fun q=>nomatch q) t₄
 refine ks_wpAt_execs_cons (ks_wpAt_Assign_Attr ?_)
 refine wpAt_of_wpAny (wpAny_Name (wpAny_loadName_local rfl rfl hns5 rfl ?_) (by decide))
 refine wpAny_Name (wpAny_loadName_local rfl rfl hns5 rfl ?_) (by decide)
 have dn':h₄.get? dx=none:=by
  rcases dn with dn|dn
  ·cases dn
  ·exact dn
 have dne: ∀b o,h₄.get? b=some o→dx≠b:=fun b o z q=>by rw [q,z] at dn';cases dn'
 refine xe_setAttr X₅ e₅ D₅ (by decide) (by rw [hG];rfl) hc hm0 (by rw [hG];rfl) (by rw [hG];rfl) hdd fun h₆ dx6 tk6 e₆ D₆ k₆ dn6=>?_
 have t₆:=k₆ _ _ t1e (fun q=>dne _ _ t₄ (Option.some.inj q)) t₅
 refine wpAt_of_wpAny (wpAny_execs_nil ?_)
 exact hq h₆ dx6 t1 _ e₆ t1n t1e t₆ fun y o n z=>k₆ _ _ n (fun q=>dne _ _ (kp4 y o n z) (Option.some.inj q)) (k₅ _ _ n (fun q=>nomatch q) (kp4 y o n z))
end
section
variable {prog:Program}{w:World}{A:Around}{E:Value→Shared→Prop}{h:Heap}{g:Array GenState}{d:Drawn}{t:Nat}{os:OsState}{K:Frag}
variable {nm q:Str}{C N:Addr}{bs bm:List Value}{hdct:Bool}{sn:List Str}{sub:List Value}{ab:Bool}{col:Option Bool}{dd:Option Addr}{k0 k1 k2 k3 k5:Option Value}{B newId initId:String}{bmB:List Value}
structure BmOk (bm:List Value):Prop where
 hasB:bm.contains (.type "Exception")=true
 noAttr:bm.contains (.type "AttributeError")=false
 noName:bm.contains (.type "NameError")=false
theorem xe_check_new (F:ExcBaseFacts "Exception" newId initId bmB)(Y:BmOk bm){M:Model}{rest:List Value}{Q:Unit→Shared→Prop}(hC:h.get? C=some (excClassObj nm q C N bs bm hdct sn sub ab col dd k0 k1 k2 k3 k5 newId))
  (hq:Q () ⟨h,g,d,t,os⟩):wpAny M A (checkBuiltinCall newId ⟨.ref C::rest,[]⟩) Q E ⟨h,g,d,t,os⟩:=by
 have hcont:(Value.ref C::bm).contains (.type "Exception")=true:=by rw [List.contains_cons,Y.hasB,Bool.or_true]
 have hstar:=F.noStar
 simp only [checkBuiltinCall,F.newKind,F.newSplit,F.newRow]
 repeat (first|refine wpAny_loadPart_at hC ?_|(refine wpAny_isSubtype_exc hC ?_;rw [hcont])|refine wpAny_staticBase_exc hC ?_|refine wpAny_madeBy_exc hC ?_|simp only [bne_self_eq_false,Bool.false_eq_true,if_false]|wp_step)
 exact hq
theorem xe_new (F:ExcBaseFacts "Exception" newId initId bmB)(Y:BmOk bm){R:Result→Shared→Prop}{rest:List Value}(hC:h.get? C=some (excClassObj nm q C N bs bm hdct sn sub ab col dd k0 k1 k2 k3 k5 newId))
  (hq:R (.ok (.ret (.ref (h.objs.size+1)))) ⟨(h.push {cls:= .type "tuple",data:= .seq rest.toArray}).push
   {cls:= .ref C,data:= .fields #[.ref h.objs.size,.none,.none,.none,.bool false,.none]},g,d,t,os⟩) (hrest:rest.length≤sizeLine:=by size_fits):
  codeAny (model prog w) A (.builtin newId ⟨.ref C::rest,[]⟩) R ⟨h,g,d,t,os⟩:=by
 have hends:=F.ends
 have hcB:(Value.ref C::bm).contains (.type "Exception")=true:=by rw [List.contains_cons,Y.hasB,Bool.or_true]
 have hcA:(Value.ref C::bm).contains (.type "AttributeError")=false:=by rw [List.contains_cons,Y.noAttr];rfl
 have hcN:(Value.ref C::bm).contains (.type "NameError")=false:=by rw [List.contains_cons,Y.noName];rfl
 refine codeAny_builtinAt F.entry ?_
 unfold Builtin.«BaseException.__new__»
 refine PySem.wpAt_bind ?_
 show PySem.wpAt _ _ _ (stack>>=_) _ _ _
 refine PySem.wpAt_bind (PySem.wpAt_stack fun p below=>wpAt_of_wpAny ?_)
 wp_walk
 refine wpAt_of_wpAny ?_
 refine rwG (F.owner ..) ?_
 repeat (first|with_reducible refine wpAny_madeHere_exc F.canon hC ?_|with_reducible refine wpAny_loadPart_at hC ?_|(with_reducible refine wpAny_isSubtype_exc hC ?_;first|rw [hcB]|rw [hcA]|rw [hcN])|wp_step)
 show R _ _
 refine rwG (Heap.size_push ..) ?_
 exact hq
theorem xe_type_call (F:ExcBaseFacts "Exception" newId initId bmB)(Y:BmOk bm){rest:List Value}{fI:Addr}{oI:Obj}{Q:Fin→Shared→Prop}(X:K.In h)
  (hC:h.get? C=some (excClassObj nm q C N bs bm hdct sn sub ab col dd k0 k1 k2 k3 k5 newId)) (hi:findIn K (.ref C) "__init__"=some (some (.ref fI)))
  (hfI:h.get? fI=some oI) (hfc:oI.cls= .type "function")
  (hq: ∀h' e,Heap.MadeExcOf h h' e (.ref C) rest→
   wpAny (model prog w) A (call (.ref fI) (.ref e::rest)) (fun r s'=>r= .none∧Q (.done (.ret (.ref e))) s') E ⟨h',g,d,t,os⟩) (hrest:rest.length≤sizeLine:=by size_fits):
  wpAny (model prog w) A (Builtin.«type.__call__» ⟨.ref C::rest,[]⟩) Q E ⟨h,g,d,t,os⟩:=by
 repeat (first|with_reducible refine wpAny_loadPart_at hC ?_|with_reducible refine wpAny_madeBy_exc hC ?_|wp_step)
 refine codeAny_call_builtin_code (Code.quiet_builtin _ F.quiet) (xe_check_new F Y hC ?_)
 refine xe_new F Y hC ?_ hrest
 show wpAny _ _ _ _ _ _
 have up: ∀b o,h.get? b=some o→((h.push {cls:= .type "tuple",data:= .seq rest.toArray}).push {cls:= .ref C,data:= .fields #[.ref h.objs.size,.none,.none,.none,.bool false,.none]}).get? b=some o:=fun b o z=>Heap.get?_push_of_some _ (Heap.get?_push_of_some _ z)
 have hC₁:=up _ _ hC
 have hfI₁:=up _ _ hfI
 have X₁:=X.keeps up
 have hget:((h.push {cls:= .type "tuple",data:= .seq rest.toArray}).push
   {cls:= .ref C,data:= .fields #[.ref h.objs.size,.none,.none,.none,.bool false,.none]}).get? (h.objs.size+1)=some
   {cls:= .ref C,data:= .fields #[.ref h.objs.size,.none,.none,.none,.bool false,.none]}:=by heap_get
 have hcC:(Value.ref C::bm).contains (.ref C)=true:=by simp
 unfold isInstance
 repeat (first|with_reducible refine wpAny_loadPart_at hget ?_|(with_reducible refine wpAny_isSubtype_exc hC₁ ?_;rw [hcC])|wp_step)
 show wpAny _ _ (typeLookup (.ref C) _) _ _ _
 refine Looks.at (looks_findIn X₁ hi) ?_
 refine wpAny_holding (wpAny_bind ?_)
 unfold bindSpecial
 refine wpAny_bind (wpAny_typeOf (T:= "function") ⟨_,hfI₁,hfc⟩ ?_)
 refine rwG (if_pos (by decide) ..) ?_
 refine wpAny_pure (wpAny_bind (wpAny_mono (hq _ (h.objs.size+1) ⟨up,Heap.get?_none_of_le (Nat.le_succ _),h.objs.size,hget,Heap.get?_none_of_le (Nat.le_refl _),?_⟩) (fun r s' hr=>?_) fun _ _ x=>x))
 ·exact Heap.get?_push_of_some _ (Heap.get?_push_at rfl rfl)
 ·obtain ⟨rfl,hQ⟩:=hr
  wp_walk
  exact hQ
theorem xe_call_cls (F:ExcBaseFacts "Exception" newId initId bmB)(Y:BmOk bm){rest:List Value}{fI:Addr}{oI:Obj}{Q:Value→Shared→Prop}(X:K.In h)
  (hC:h.get? C=some (excClassObj nm q C N bs bm hdct sn sub ab col dd k0 k1 k2 k3 k5 newId)) (hi:findIn K (.ref C) "__init__"=some (some (.ref fI)))
  (hfI:h.get? fI=some oI) (hfc:oI.cls= .type "function")
  (hq: ∀h' e,Heap.MadeExcOf h h' e (.ref C) rest→
   wpAny (model prog w) (A.under (.builtin "type.__call__" ⟨.ref C::rest,[]⟩)) (call (.ref fI) (.ref e::rest)) (fun r s'=>r= .none∧Q (.ref e) s') E ⟨h',g,d,t,os⟩) (hrest:rest.length≤sizeLine:=by size_fits):
  wpAny (model prog w) A (call (.ref C) rest) Q E ⟨h,g,d,t,os⟩:=by
 have f1:=tc_lookup
 have f2:=tc_bind (.ref C)
 have hT:(⟨h,g,d,t,os⟩:Shared).TypeIs (.ref C) "type":=⟨_,hC,rfl⟩
 refine wpAny_call (codeAny_of_tree ?_)
 show wpAny _ _ (callAny (.ref C) _) _ _ _
 repeat (any_goals (first|assumption|with_reducible refine wpAny_loadPart_at hC ?_|wp_step))
 refine ⟨rfl,?_⟩
 refine codeAny_call_builtin_at (Code.quiet_builtin _ (by decide+kernel)) entry_typeCall (wpAny_check_type_call_sub hC (xe_type_call (hrest:=hrest) F Y X hC hi hfI hfc fun h' e hm=>?_))
 exact hq h' e hm
end
section
variable {M:Model}{A:Around}{E:Value→Shared→Prop}{env:Env}
theorem xe_raiseStmt {nm q:Str}{C N:Addr}{bs bm:List Value}{hdct:Bool}{sn:List Str}{sub:List Value}{ab:Bool}{col:Option Bool}{dd:Option Addr}{k0 k1 k2 k3 k5:Option Value}{newId:String}
  {s:Shared}{x:Sem Value}{Q:Flow→Shared→Prop}(hbase:bm.contains (.type "BaseException")=true) (hh:A.handled=none)
  (h:wpAny M A x (fun v s₁=> ∃e t dx,v= .ref e∧s₁.heap.get? C=some (excClassObj nm q C N bs bm hdct sn sub ab col dd k0 k1 k2 k3 k5 newId)∧
   s₁.heap.get? e=some {cls:= .ref C,dict:=dx,data:= .fields #[.ref t,.none,.none,.none,.bool false,.none]}∧E (.ref e) s₁) E s):
  wpAny M A (raiseStmt env (some x) none) Q E s:=by
 have hcB:(Value.ref C::bm).contains (.type "BaseException")=true:=by rw [List.contains_cons,hbase,Bool.or_true]
 unfold raiseStmt
 refine wpAny_bind (wpAny_mono h (fun v s₁ h₁=>?_) fun _ _ x=>x)
 obtain ⟨e,t,dx,rfl,hC,he,hE⟩:=h₁
 obtain ⟨hp,g,d,tk,os⟩:=s₁
 repeat (first|with_reducible refine wpAny_loadPart_at he ?_|with_reducible refine wpAny_loadPart_at hC ?_|(with_reducible refine wpAny_isSubtype_exc hC ?_;rw [hcB])|wp_step)
 exact wpAny_raiseNew_none hh hE
end
section
variable {G:Gl}{C:Cx}{lv:List (Option AVal)}{σ:Own}{x:Prop}{Qn:List (Option AVal)→Own→Prop}{Qr:AVal→Own→Prop}
theorem bm_font :BmOk bmFont:=⟨by decide,by decide,by decide⟩
inductive FontArgs :List AVal→Prop where
 |one (y:Str):FontArgs [.str y]
 |two (y:Str) (i:Int):FontArgs [.str y,.int i]
theorem shape_binds (hG:G.frag=KF G.w.params){K:Kept}{vs:List AVal}{cvs:List Value}(ha:FontArgs vs)(r:VRels G.w.params K vs cvs)(e:Addr){s:Shared}(X:G.frag.In s.heap):
  ∃what at_,BindsTo s (shapeFn G) ⟨.ref e::cvs,[]⟩ [("self",.ref e),("what",what),("at",at_)]:=by
 cases ha with
 |one y=>
  refine r.oneE fun _ r1=>?_
  refine r1.strE fun t=>?_
  refine ⟨.str y t,.int (-1) 209,fun M A E Q hq=>?_⟩
  with_unfolding_all refine nd_load (a:=30) (X _ _ (by rw [hG];rfl)) ?_
  exact wpAny_of_eq (by rfl) hq
 |two y i=>
  refine r.twoE fun _ _ r1 r2=>?_
  refine r1.strE fun t=>?_
  refine r2.intE fun u=>?_
  refine ⟨.str y t,.int i u,fun M A E Q hq=>?_⟩
  with_unfolding_all refine nd_load (a:=30) (X _ _ (by rw [hG];rfl)) ?_
  exact wpAny_of_eq (by rfl) hq
theorem Ex.raise (hG:G.frag=KF G.w.params)(hP:ProgOk G.prog)(hrk:1≤C.rk)(hx:x){args:List Expr}{np cpos pos:Pos}
  (h:Args' G C lv σ cpos args (fun vs _=>FontArgs vs) x) (hk:C.env.kindOf "FontFault"=some .globalImplicit:=by rfl)
  (he:eval (.Call (.Name "FontFault" np) args [] cpos) C.env=(do callWith cpos (←eval (.Name "FontFault" np) C.env) [] (backTo cpos (starEach args C.env)) (backToKw cpos (keywordEach [] C.env))):=by rfl)
  (hplain:(backTo cpos (starEach args C.env)).all (fun x=>!x.1)=true:=by rfl):
  Ex G C lv σ (exec (.Raise (some (.Call (.Name "FontFault" np) args [] cpos)) none pos) C.env) Qn Qr x:=fun K J m own s S I O=>by
 have F:=S.fr I
 have Z:=S.glo.keeps F.keep
 refine rwG (arm_exec_Raise ..) ?_
 refine wpAny_bind (wpAny_standAt ?_)
 show wpAny _ _ (raiseStmt C.env (some (do let v←eval (.Call (.Name "FontFault" np) args [] cpos) C.env;standAt pos;pure v)) none) _ _ _
 refine xe_raiseStmt (C:=73) (bm:=bmFont) (nm:= "FontFault") (q:= "FontFault") (N:=72) (bs:= [.ref 48]) (hdct:=true) (sn:= []) (sub:= []) (ab:=false) (col:=none) (dd:=none) (k0:=some (.ref 64)) (k1:=none) (k2:=some (.str "FontFault" 254)) (k3:=some (.str "FontFault" 262)) (k5:=some (.bool true)) (newId:= "Exception.__new__") (by decide) S.hh ?_
 refine wpAny_bind (wpAny_mono (Q:=fun v s₁=> ∃e t dx,v= .ref e∧s₁.heap.get? 73=some (excClassObj "FontFault" "FontFault" 73 72 [.ref 48] bmFont true [] [] false none none (some (.ref 64)) none (some (.str "FontFault" 254)) (some (.str "FontFault" 262)) (some (.bool true)) "Exception.__new__")∧
   s₁.heap.get? e=some (excObj dx t)∧Fresh C s (.ref e) s₁) ?_ (fun v s₁ q=>?_) fun _ _ f=>f)
 ·refine Call_ (Name_function_global S.kind hk (loadGlobal_global (by rw [S.hg];exact S.glo.g.keeps F.keep) (mg_of S.glo.frag S.glo.g (ns_FontFault hG)) ?_) (by decide)) he
  refine callWith_all (P:=fun h'=>G.frag.In h') (fun h' X=>keeps_K (by rw [hG];rfl) h' X) (h.seq S I O (fun K₁ own₁ vs σ₁ h₁ tk₁ cvs k₁ I₁ O₁ r₁ S₁ q₁=>?_) fun ev s' f=>⟨f.1,.flown f.2⟩) hplain
  have F₁:=S₁.fr I₁
  have Z₁:=S₁.glo.keeps F₁.keep
  refine ⟨Z₁.frag,?_⟩
  obtain ⟨hp,g,d,tk,os⟩:=s
  have hl:cvs.length≤2:=by
   refine rwG (r₁.length ..) ?_
   cases q₁<;>simp
  refine xe_call_cls (C:=73) _root_.PySem.F.excBase_Exception bm_font (fI:=38) Z₁.frag (xe_classC hG Z₁.frag) (by rw [hG];rfl) (Z₁.frag _ _ (by rw [hG];rfl)) rfl (fun h' e hm=>?_) (by rw [sizeLine_eq,List.nil_append];lia)
  obtain ⟨t0,he0,ht0n,ht0⟩:=hm.there
  obtain ⟨what,at_,hb⟩:=shape_binds hG q₁ r₁ e (s:=⟨h',g,d,tk₁,os⟩) (Z₁.frag.keeps hm.keeps)
  refine xe_shape_init hG hP (Z₁.keeps hm.keeps) ?_ hb he0 (fun a o z q=>?_) ht0 rfl fun h₂ dx t1 tk' e₂ t1n t1e t₂ k₂=>⟨rfl,?_⟩
  ·have:=S.depth
   show C.A.depth+1<recursionLimit
   lia
  ·have:=Z₁.frag _ _ z
   rw [q,hm.new] at this
   cases this
  ·have up: ∀b o,h₁.get? b=some o→h₂.get? b=some o:=fun b o z=>k₂ _ _ (fun q=>by rw [q,hm.new] at z;cases z) (hm.keeps _ _ z)
   refine ⟨e,t1,some dx,rfl,up _ _ (xe_classC hG Z₁.frag),e₂,e,t1,[what],h₂,tk',h₁,m,_,_,rfl,rfl,F₁,up,e₂,rfl,rfl,rfl,rfl,hm.new,?_,⟨_,_,t₂,rfl,rfl⟩⟩
   cases q:h₁.get? t1 with
   |none=>rfl
   |some o=>
    have:=hm.keeps _ _ q
    rw [t1n] at this
    cases this
 ·obtain ⟨e,t,dx,rfl,hC,he,hf⟩:=q
  exact wpAny_bind (wpAny_standAt (wpAny_pure ⟨e,t,dx,rfl,hC,he,hx,.fresh hf⟩))
end
section
variable {G:Gl}{C:Cx}{lv:List (Option AVal)}{σ:Own}{Q:AVal→Own→Prop}{x:Prop}
theorem CodeP.enter {f:Addr}{D:DefAt G f}{ps:List Str}(ok:D.Ok ps){vs:List AVal}(hn:vs.length=ps.length)(hrk:1≤C.rk)
  (hb: ∀(cvs:List Value) (A:Around) (s:Shared) (Q:List (Str×Value)→Shared→Prop) (E:Value→Shared→Prop),G.frag.In s.heap→cvs.length=vs.length→Q (ps.zip cvs) s→wpAny (model G.prog G.w) A (bindArgs D.fn ⟨cvs,[]⟩) Q E s):
  ∀K J m own s cvs (R:Result→Shared→Prop),Sit G C lv K J m→Inv K J own C.L m s.heap→Owns G.w.params K σ own→VRels G.w.params K vs cvs→
  (∀g L' J' m' h₁ tk,(∀a o,g.get? a=some o→s.heap.get? a=some o)→(∀a o,s.heap.get? a=some o→a∉own.map (·.1)→g.get? a=some o)→Below C.A C.base (C.fenv::C.outer) g→
   Sit G (D.cx C g L') (vs.map some++List.replicate (D.scope.names.length - vs.length) none) K J' m'→Inv K J' own L' m' h₁→
   wpAny (model G.prog G.w) (C.A.deeper (envOfC D.qual D.scope L' f D.cdv)) (execs D.body (envOfC D.qual D.scope L' f D.cdv)) (fun fl s'=>R (.ok (.ret (match fl with| .ret v=>v|_=> .none))) s')
    (fun e s'=>wpAny (model G.prog G.w) (C.A.deeper (envOfC D.qual D.scope L' f D.cdv)) (leaving (envOfC D.qual D.scope L' f D.cdv) e) (fun _ s''=>R (.error e) s'') (fun e' s''=>R (.error e') s'') s') {s with heap:=h₁,toks:=tk})→
  codeAny (model G.prog G.w) C.A (.call (.ref f) ⟨cvs,[]⟩) R s:=by
 intro K J m own s cvs R S I O r h
 have X:=S.glo.frag.keeps (S.fr I).keep
 have hlen:cvs.length=vs.length:=r.length
 have hd1:=S.depth
 refine codeAny_call_function (fd:=D.fn) (by exact Nat.lt_of_add_right_lt hd1) (X _ _ ok.at_) rfl ok.hco ok.hgen rfl (codeRec_of X ok.code) ?_
 refine hb cvs _ s _ _ X hlen ?_
 have hzip:((ps.zip cvs).map (·.1))=ps:=List.map_fst_zip (by omega)
 refine wpAny_newFunctionEnv_cells ok.kind (fun y hy=>?_) fun env' he s' hx=>?_
 ·have hy':y.1∈ps:=hzip▸List.mem_map_of_mem hy
  exact (ok.kinds _ hy').imp id fun q=>⟨q,ok.has _ _ q⟩
 subst he
 refine ⟨(S.glo.nolimit.keeps (S.fr I).keep).keeps hx.toInCall.keep,codeAny_func ?_⟩
 obtain ⟨h₁,tk,rfl,hk₁⟩:=hx.done
 generalize hLdef:s.heap.objs.size=L' at hx
 obtain ⟨g,J',m',hg1,hg2,BG,FG,S',I',jj,jl⟩:=entry ok hn hrk S I r hLdef hx hk₁
 exact h g L' J' _ h₁ tk hg1 hg2 BG S' I'
end
section
variable {G:Gl}{C:Cx}{lv:List (Option AVal)}{p:Program}{loose:List Str}{mean:ExcName→Option Value}
inductive RefEnd (C:Cx)(s:Shared):Value→Shared→Prop
 |mk (h':Heap) (tk:Nat) (up: ∀b o,s.heap.get? b=some o→ ∃sl,h'.get? b=some {o with slots:=sl}) (kp: ∀b o,s.heap.get? b=some o→b∉(C.fenv::C.outer).filterMap (·.frame)→h'.get? b=some o):RefEnd C s (.bool true) {s with heap:=h',toks:=tk}
theorem refused_core (hG:G.frag=KF G.w.params)(hXb:G.frag.In C.base)(hTb:Top p loose mean G.mg G.mb C.base)(hD:KtsDicts (C.outer.filterMap (·.frame)) C.h₀)(hrk:1≤C.rk){deed:Value}{w:AVal}(hd:Keeps G deed)
  (hdeed: ∀g L',CallP G ((D_law_is_refused G).cx C g L') [some (.cst deed),some w,none] [] deed [w] (fun _ _=>False) True):
  ∀K J m s cvs,Sit G C lv K J m→Inv K J [] C.L m s.heap→VRels G.w.params K [.cst deed,w] cvs→
   wpAny (model G.prog G.w) C.A (call (.ref 464) cvs) (RefEnd C s) (fun _ _=>False) s:=by
 intro K J m s cvs S I r
 refine wpAny_call (CodeP.enter (ok_law_is_refused hG) (vs:= [.cst deed,w]) rfl hrk ?_ K J m [] s cvs _ S I .nil r ?_)
 ·intro cvs A s Q E X hl q
  obtain ⟨a,r,rfl,e1⟩:=lenS (n:=1) hl
  obtain ⟨b,rfl⟩:=List.length_eq_one_iff.mp e1
  exact wpAny_of_eq (by rfl) q
 intro g L' J' m' h₁ tk hg1 hg2 BG S' I'
 refine wpAny_execs_cons ?_
 refine wpAny_Try_except ?_
 have ev: ∀p1 p2 p3,Ev G ((D_law_is_refused G).cx C g L') ([some (.cst deed),some w,none]) [] (.Call (.Name "deed" p1) [.Name "worth" p2] [] p3) (fun _ _=>False) True:=by
  intro p1 p2 p3
  refine Ev.call (Ev.name (i:=0) rfl rfl ⟨_,rfl,hd,Args'.cons (Ev.name (i:=1) rfl rfl (Args'.nil ?_))⟩)
  exact hdeed g L'
 refine wpAny_execs_cons (wpAny_Expr_any ((ev _ _ _).seq S' I' .nil (fun K₁ own₁ v σ₁ h₁ tk₁ cv k₁ I₁ O₁ r₁ S₁ q₁=>q₁.elim) fun ev s' f=>?_))
 obtain ⟨-,e,t,vs,h₂,tk₂,g₂,m₂,rfl,rfl,RS,F₂,U⟩:=f
 have hDg:KtsDicts ((C.fenv::C.outer).filterMap (·.frame)) g:=by
  intro b hb
  rw [List.filterMap_cons,S.hf] at hb
  rcases List.mem_cons.mp hb with rfl|hb
  ·obtain ⟨o,es,n,ho,hd,_⟩:=I.ns
   exact ⟨o,es,n,hg2 _ _ ho (by simp),hd⟩
  ·obtain ⟨o,es,n,ho,hd⟩:=hD b hb
   exact ⟨o,es,n,hg2 _ _ ((S.fr I).keep _ _ ho) (by simp),hd⟩
 refine caught_SO0 (KF:=G.frag) (base:=C.base) (g:=g) (g₀:=g) (outer:=C.fenv::C.outer) (A₀:=C.A) (L:=L') (C:=73) (x:= "FontFault") (news:= []) RS F₂ BG U hXb hTb hDg .refl (by rw [hG];rfl) (by rw [hG];rfl) ?_
 intro h' g' news₂ T' F' N' Got' N0' B' X' P' D'
 refine wpAny_execs_cons (wpAny_Return_some (wpAny_Constant_bool ?_))
 exact ⟨h',tk₂,fun b o hb=>(T'.up (hg2 b o hb List.not_mem_nil)).imp fun sl hs=>F'.keep _ _ hs,fun b o hb n=>F'.keep _ _ (T'.other b o (hg2 b o hb List.not_mem_nil) n)⟩
end
section
variable {G:Gl}{C:Cx}{lv:List (Option AVal)}{σ:Own}{Q:AVal→Own→Prop}{x:Prop}{p:Program}{loose:List Str}{mean:ExcName→Option Value}
theorem Sit.monoJ {K J J':Kept}{m:Str→Option Value}(S:Sit G C lv K J m)(hj: ∀a o,J a o→J' a o):Sit G C lv K J' m:=
 S.mapJ (fun a o _=>hj a o) (fun o _ _ _=>hj _ o) fun a o _ _=>hj a o
theorem Inv.stow {K J:Kept}{own:Led}{L:Addr}{m:Str→Option Value}{h:Heap}(I:Inv K J own L m h):Inv K (fun a o=>J a o∨(a,o)∈own) [] L m h:=by
 refine ⟨I.k,?_,fun p hp=>(nomatch hp),List.nodup_nil,fun p hp=>(nomatch hp),fun p hp=>(nomatch hp),?_,I.ns,I.kL,?_,fun p hp=>(nomatch hp)⟩
 ·rintro a o (e|e)
  ·exact I.j a o e
  ·exact I.ow _ e
 ·rintro a o o' e (q|q)
  ·exact I.kj a o o' e q
  ·exact I.ok _ q o e
 ·rintro o (q|q)
  ·exact I.jL o q
  ·exact I.oL _ q rfl
theorem refused_spec (hG:G.frag=KF G.w.params)(hXb:G.frag.In C.base)(hTb:Top p loose mean G.mg G.mb C.base)(hout:C.outer= [])(hrk:1≤C.rk){deed:Value}{w:AVal}(hd:Keeps G deed)
  (hdeed: ∀g L',CallP G ((D_law_is_refused G).cx C g L') [some (.cst deed),some w,none] [] deed [w] (fun _ _=>False) True)
  (h:Q (.bool true) σ):CallP G C lv σ (.ref 464) [.cst deed,w] Q x:=fun K J m own s cvs S I O r=>by
 refine wpAny_mono (refused_core hG hXb hTb (by rw [hout];exact ktsDicts_nil) hrk hd hdeed K _ m s cvs (S.monoJ fun _ _=> .inl) I.stow r) (fun cv s' q=>?_) fun _ _ f=>f.elim
 obtain ⟨h',tk,up,kp⟩:=q
 have kp': ∀b o,b≠C.L→s.heap.get? b=some o→h'.get? b=some o:=fun b o n e=>kp b o e (by
  rw [hout,List.filterMap_cons,S.hf]
  simpa using n)
 refine ⟨K,own,.bool true,σ,h',tk,rfl,fun _ _ e=>e,{I with k:=fun a o e=>kp' a o (fun q=>I.kL o (q▸e)) (I.k a o e),j:=fun a o e=>kp' a o (fun q=>I.jL o (q▸e)) (I.j a o e),ow:=fun p hp=>kp' _ _ (I.oL p hp) (I.ow p hp),ns:=?_},O,.bool _,h⟩
 exact I.ns.elim fun o h=>h.elim fun es h=>h.elim fun ep h=>(up _ _ h.1).elim fun sl hs'=>⟨_,es,ep,hs',h.2⟩
end
theorem caller_clean :Clean ⟨.builtin "claim.caller" {},none,none,[],none⟩:=⟨by decide+kernel,fun y hy=>nomatch hy⟩
theorem done_clean {M:Model}{t:Sem Fin}{R:Result→Shared→Prop}{s:Shared}
  (h:wpN M callerA t (fun fin s'=> ∃f,fin= .done f∧R (.ok f) s') (fun e s'=>R (.error e) s') s) (p:Pos):
  Sem.wp M ⟨.builtin "claim.caller" {},none,none,[],none⟩ t (Sem.finPost M ⟨.builtin "claim.caller" {},none,none,[],none⟩ R) (fun e _ s'=>R (.error e) s') p s:=
 Sem.wp_mono M _ t (fun _ _ _ ⟨f,e,hf⟩=>by subst e;exact hf) (fun _ _ _ h'=>h') p s (h _ p caller_in caller_clean)
inductive CEnd (c:ClaimW)(s:Shared)(args:List WData)(vs:List Value)(s₁:Shared)(kept:Heap→Prop)(r:Result)(s':Shared):Prop
 |mk (e:c.Ends s args vs s₁ r s') (o:s'.os=s.os) (b:AllBare s'.gens) (k:kept s'.heap)
theorem CEnd.out {c:ClaimW}{s:Shared}{args:List WData}{vs:List Value}{s₁:Shared}{kept:Heap→Prop}{r:Result}{s':Shared}(h:CEnd c s args vs s₁ kept r s'):(c.Ends s args vs s₁ r s'∧s'.os=s.os∧kept s'.heap)∧leftWithCleanup s'.gens=false:=
 ⟨⟨h.1,h.2,h.4⟩,leftWithCleanup_false_of_bare h.3⟩
theorem callFrom_clean {c:ClaimW}{tree:List Value→Sem Fin}{w:World}{s:Shared}{free:Addr→Prop}{gens:Prop}{kept:Heap→Prop}(hz:s.asleep)(hgens:s.gens= #[])
  (hspec: ∀args,c.pre args=true→WData.layableAll args=true→
   ∀ord:List DictEntry→List DictEntry,(∀l,(ord l).Perm l)→
   ∀P:Prop,(∀vs s₁,layAllW c.records (classAt s.heap) w.params ord args s=some (vs,s₁)→
    wpN (model c.prog w) callerA (tree vs) (fun fin s'=> ∃f,fin= .done f∧CEnd c s args vs s₁ kept (.ok f) s')
     (fun e s'=>CEnd c s args vs s₁ kept (.error e) s') s₁→P)→P):
  c.CallFrom (fun vs=>⟨tree vs,.builtin "claim.caller" {},default,[]⟩) w free gens kept s:=by
 intro args hpre hlay ord hord
 refine hideG fun M kM=>?_
 refine hspec args hpre hlay ord hord _ fun vs s₁ hlaid hcode=>?_
 have hal:=layAllW_rest _ _ _ hlaid
 have hw:=done_clean (R:=fun r s'=>(c.Ends s args vs s₁ r s'∧s'.os=s.os∧kept s'.heap)∧leftWithCleanup s'.gens=false)
  (hcode.mono (fun fin s' h=>h.imp fun f h=>⟨h.1,h.2.out⟩) fun e s' h=>h.out) default
 obtain ⟨k,r,s',s'',hsched,hrun,hfo,hcase,hos,hkp⟩:=wp_halts_full (M:=model c.prog w) (R:=fun r s'=>c.Ends s args vs s₁ r s'∧s'.os=s.os∧kept s'.heap) (Shared.asleep_of_life hal.2.2.2 hz) hw
 obtain ⟨eh,_,_,eo,_⟩:=Shared.forget_eq hfo
 have hcase:=hcase.congr eh
 rw [←eh] at hkp
 rw [←eo] at hos
 have hlife:s''.heap.life=s.heap.life:=(runN_life _ _ _ hrun).trans hal.2.2.2
 exact kM ⟨vs,s₁,hlaid,k,_,s'',hsched,hcase.imp (Exists.imp fun v=>And.imp (congrArg outcomeOf)<|And.imp id<|And.imp id<|And.imp id<|And.imp (fun d b o y _=>d b o y) id) (Exists.imp fun e=>Exists.imp fun ob=>Exists.imp fun cls=>And.imp (congrArg outcomeOf)<|And.imp id<|And.imp id<|And.imp id<|And.imp id fun d b o y _=>d b o y),(fun _ i x hx=>by rw [hgens] at hx;exact nomatch (show none=some x from hx)),hkp,by rw [hlife],Shared.rest_eq hos⟩
noncomputable abbrev WalkC (q:Program)(loose:List Str)(XP:(Str→Option Value)→Heap→Prop)(YP:World→Heap→Prop)(r:RowW)(d:DefRec)(kwd:List (Str×Expr)):Prop:=
 ∀(w:World) (s₀ s₁:Shared) (mg mb:Str→Option Value),Ground q loose r.records XP w s₀ mg mb s₁.heap→YP w s₁.heap→ ∀(a:Addr) (o:Obj) (pm cd doc dV kV:Value),s₁.heap.get? a=some o→
  o.data= .func {docDef d.name d.params d.body d.scope pm cd doc with defaults:=dV,kwdefaults:=kV}→s₁.heap.CodeRec cd d.name→Dflts mg s₁.heap d.params kwd dV kV→mg d.name=some (.ref a)→s₁.gens= #[]→
  ∀(args:List WData) (vals:List Value) (as:List Addr),r.claim.pre args=true→WData.layableAll args=true→ReadsAllW r.records (classAt s₀.heap) s₁.heap vals args as→WellAll w.params s₁.heap vals args→(∀a∈as,(a==sysModules)=false)→
   wpN (model r.prog w) callerA (call (.ref a) vals) (fun v s'=>GoodWG r.claim (classAt s₀.heap) (ExcName.means s₀.heap) args s₁ (.ok (.ret v)) s')
    (fun e s'=>GoodWG r.claim (classAt s₀.heap) (ExcName.means s₀.heap) args s₁ (.error e) s') s₁
theorem holds_clean {r:OpenRow}{q:Program}{loose:List Str}{Xt:Shared→Bool}{XP:(Str→Option Value)→Heap→Prop}{α:Type}{Yf:Shared→α}{Ya:World→α}{YP:World→Heap→Prop}{d:DefRec}{kwd:List (Str×Expr)}{N:Nat}
  (left:LeftO r.prog q loose Xt Yf Ya N) (hY: ∀w s,Yf s=Ya w→YP w s.heap) (hYk: ∀w h h',YP w h→(∀b o,h.get? b=some o→h'.get? b=some o)→YP w h')
  (hX: ∀s,Xt s=true→XP (s.heap.nsMap mainGlobals) s.heap) (hXk: ∀mg h h',XP mg h→(∀b o,h.get? b=some o→h'.get? b=some o)→XP mg h')
  (hdef:defOf q r.name=some (d,kwd)) (hp:r.prog.theDef r.name=some (d.params,d.body,d.scope)) (hk:kwWritten? d.params.kwonlyargs d.params.kw_defaults=some kwd) (hRf: ∀s,Xt s=true→RecFacts r.records s.heap) (hwr:(!r.writes||r.records.isEmpty)=true)
  (k1:r.wellSaid=true) (ok:(chainsOk q&&opensWell r.prog&&(frees r.toRowW&&r.within.isEmpty))=true) (hb:r.prog.bare) (hw:r.toRowW.promised)
  (walk:WalkC q loose XP YP r.toRowW d kwd):r.Holds:=by
 refine ⟨k1,hw,?_⟩
 refine hideG fun M kM=>?_
 obtain ⟨ok,k5⟩:=Bool.and_eq_true_iff.mp ok
 obtain ⟨hch,o1⟩:=Bool.and_eq_true_iff.mp ok
 obtain ⟨k5,k6⟩:=Bool.and_eq_true_iff.mp k5
 obtain ⟨hsame,hu,ha,hap,hm⟩:=frees_parts k5
 refine kM ?_
 clear kM
 refine ⟨⟨hb,o1,by show r.toRowW.makers.map _= [];rw [hm];rfl⟩,hw.witness,fun w=>⟨(left.behind hX hch w).1,fun s' hs'=>?_⟩⟩
 refine hideG fun M kM=>?_
 obtain ⟨s₀,hf,hg0,s,hT,hz,hgens,hg,G00,y⟩:=(left.behind (XP:=fun mg h=>XP mg h∧RecFacts r.records h) (fun s hs=>⟨hX s hs,hRf s hs⟩) hch w).2 s' hs'
 have G0:Ground q loose [] XP w s (s.heap.nsMap mainGlobals) (s.heap.nsMap builtinsNs) s.heap:=⟨G00.T,G00.B,G00.D,G00.TE,G00.TD,G00.W,G00.X.1,G00.cls,G00.has,G00.apart,G00.once,G00.K⟩
 have RF:=G00.X.2
 refine kM ⟨s₀,hf,hg0,s,hT,fun n hn=>?_,RF.1,RF.2.1,?_⟩
 ·obtain rfl:n=r.name:=by split at hn<;>simp_all
  exact pinned_of_view hg G0 hdef hp hk
 have hgens:s.gens= #[]:=Array.eq_empty_of_size_eq_zero (beq_iff_eq.mp hgens)
 have G:Ground q loose r.records XP w s _ _ s.heap:=RF.ground G0
 refine callFrom_clean (c:=r.toRowW.claim) hz hgens fun args hpre hlay ord hord P kP=>?_
 obtain ⟨⟨vs,s₁⟩,hlaid⟩:=Option.isSome_iff_exists.mp (layAllW_isSome (P:=w.params) (ord:=ord) G.has args r.args s (pre_splitW hpre).1)
 have keeps:=layAllW_keeps _ _ _ hlaid
 have hal:=layAllW_rest _ _ _ hlaid
 obtain ⟨as,hrd,hin,hold⟩:=reads_layAllW hord _ _ _ hlaid hlay s₁.heap (fun _ _ e=>e)
 have L:Laid r.records w s s₁ args vs as:=⟨⟨ord,hord,hlaid⟩,hrd,hin,hold,keeps,hal.1.trans hgens,hal.2.2.1⟩
 have G₁:=G.keeps hXk keeps
 obtain ⟨a,o,pm,cd,doc,dV,kV,h1,h2,h3,h4,h5⟩:=G₁.fn hdef
 have h:=walk w s s₁ _ _ G₁ (hYk _ _ _ (hY w s y) keeps) a o pm cd doc dV kV h2 h3 h4 h5 (defOf_name hdef▸h1) L.gens args vs as hpre hlay L.reads L.well (L.low G.low)
 have hi:=ident_freeW hu ha hap
 have hwi:r.toRowW.claim.within= []:=List.isEmpty_iff.mp k6
 refine kP vs s₁ hlaid ?_
 refine .seq (wpAny_nsGet G₁.T.g ?_)
 rw [show (s.heap.nsMap mainGlobals) r.name=some (.ref a) from h1]
 refine .bind (h.mono (fun v s' g=> .pure ⟨_,rfl,?_⟩) fun e s' g=>?_)
 ·have z:=g.laid (c:=r.toRowW.claim) hsame hwi hi L
  exact ⟨z.1,z.2.1,z.2.2,fun q=>⟨namesKept_of hT hg _ keeps g.2.1.old,noTable hwr q⟩⟩
 ·have z:=g.laid (c:=r.toRowW.claim) hsame hwi hi L
  exact ⟨z.1,z.2.1,z.2.2,fun q=>⟨namesKept_of hT hg _ keeps g.2.1.old,noTable hwr q⟩⟩
section
variable {G:Gl}{C:Cx}{lv:List (Option AVal)}{σ:Own}{x:Prop}{Q:AVal→Own→Prop}
theorem Keeps.fk {f:Value}(hG:G.frag=KF G.w.params)(e:keepIn (KF G.w.params) f=true):Keeps G f:= .frag (hG▸e)
theorem eval_call_name {y:Str}{np pos:Pos}{args:List Expr}{env:Env}:eval (.Call (.Name y np) args [] pos) env=(do callWith pos (←eval (.Name y np) env) [] (backTo pos (starEach args env)) (backToKw pos (keywordEach [] env))):=by rfl
theorem star_name {y:Str}{p:Pos}{es:List Expr}{env:Env}:starEach (.Name y p::es) env=(false,eval (.Name y p) env)::starEach es env:=by rfl
noncomputable def nameSide (C:Cx)(y:Str):Bool:=(C.env.kindOf y==some .globalImplicit)&&(y != "__name__")&&!(y==("__debug__":Str))
theorem side_out {y:Str}(h:nameSide C y=true):C.env.kindOf y=some .globalImplicit∧y≠ "__name__"∧(y==("__debug__":Str))=false:=by
 unfold nameSide at h
 rw [Bool.and_eq_true,Bool.and_eq_true,bne_iff_ne,Bool.not_eq_true',beq_iff_eq] at h
 exact ⟨h.1.1,h.1.2,h.2⟩
theorem Ev.callB {y:Str}{np pos:Pos}{args:List Expr}{cv:Value}(hm:nsIn G.frag mainGlobals y=some Option.none)(hv:bootBuiltins y=some cv)(hkp:Keeps G cv)(h:Args' G C lv σ pos args (fun vs σ₂=>CallP G C lv σ₂ cv vs Q x) x)
  (hs:nameSide C y=true:=by exact Eq.refl true) (hp:(backTo pos (starEach args C.env)).all (fun x=>!x.1)=true:=by exact Eq.refl true):Ev G C lv σ (.Call (.Name y np) args [] pos) Q x:=
 Ev.call (Ev.built hm hv ⟨_,rfl,hkp,h⟩ (side_out hs).1 (side_out hs).2.1 (side_out hs).2.2) eval_call_name hp
theorem Ev.callG {y:Str}{np pos:Pos}{args:List Expr}{cv:Value}(hm:nsIn G.frag mainGlobals y=some (some cv))(hkp:Keeps G cv)(h:Args' G C lv σ pos args (fun vs σ₂=>CallP G C lv σ₂ cv vs Q x) x)
  (hs:nameSide C y=true:=by exact Eq.refl true) (hp:(backTo pos (starEach args C.env)).all (fun x=>!x.1)=true:=by exact Eq.refl true):Ev G C lv σ (.Call (.Name y np) args [] pos) Q x:=
 Ev.call (Ev.glob hm ⟨_,rfl,hkp,h⟩ (side_out hs).1 (side_out hs).2.2) eval_call_name hp
section
variable {i j:Nat}{y z:Str}{k k':NameKind}{v w:AVal}{p p' pos:Pos}(hn:C.env.scope.names[i]?=some (y,k))(hv:lv[i]?=some (some v))(hn':C.env.scope.names[j]?=some (z,k'))(hv':lv[j]?=some (some w))
include hn hv
theorem Args'.name {es:List Expr}{Q:List AVal→Own→Prop}(h:Args' G C lv σ pos es (fun vs=>Q (v::vs)) x):Args' G C lv σ pos (.Name y p::es) Q x:=Args'.cons (Ev.name hn hv h) star_name
theorem Ev.binN {op:Operator}{r:Expr}(h:Ev G C lv σ r (fun b σ₂=>Bin G C lv σ₂ op v b Q x) x):Ev G C lv σ (.BinOp (.Name y p) op r pos) Q x:=Ev.bin (Ev.name hn hv h)
theorem Ev.binNI {op:Operator}{n:Int}{c:Nat}(h:Bin G C lv σ op v (.int n) Q x):Ev G C lv σ (.BinOp (.Name y p) op (.Constant (.int n) c p') pos) Q x:=Ev.bin (Ev.name hn hv (Ev.int h))
theorem Ev.subN {r:Expr}(h:Ev G C lv σ r (fun b σ₂=>Item G C lv σ₂ v b Q x) x)(hs: ∀o i,subscripted r false o i=operate [o,i] (getItem o i):=by intro _ _;rfl):Ev G C lv σ (.Subscript (.Name y p) r pos) Q x:=Ev.sub (Ev.name hn hv h) hs
theorem Ev.attrN {name:Str}(h:Attr G C lv σ v name Q x)
 (he:eval (.Attribute (.Name y p) name pos) C.env=(do
  let ov←eval (.Name y p) C.env
  standAt pos.atName
  let r←holding [ov] (getAttr ov name true)
  letTemporaryGo (.Name y p) ov r
  pure r):=by with_unfolding_all rfl):Ev G C lv σ (.Attribute (.Name y p) name pos) Q x:=Ev.attr (Ev.name hn hv h) he
theorem Tst.cmpN {r:Expr}{op:CmpOp}{Q:Bool→Own→Prop}(h:Ev G C lv σ r (fun b σ₂=>Cmp G C lv σ₂ op v b Q x) x)(hm:behindInMarks op r=false:=by exact Eq.refl false):Tst G C lv σ (.Compare (.Name y p) [op] [r] pos) Q x:=Tst.cmp (Ev.name hn hv h) hm
include hn' hv'
theorem Ev.binNN {op:Operator}(h:Bin G C lv σ op v w Q x):Ev G C lv σ (.BinOp (.Name y p) op (.Name z p') pos) Q x:=Ev.bin (Ev.name hn hv (Ev.name hn' hv' h))
theorem Ev.subNN (h:Item G C lv σ v w Q x):Ev G C lv σ (.Subscript (.Name y p) (.Name z p') pos) Q x:=Ev.sub (Ev.name hn hv (Ev.name hn' hv' h)) fun _ _=>rfl
end
theorem Ev.binI {op:Operator}{r:Expr}{n:Int}{c:Nat}{p pos:Pos}(h:Ev G C lv σ r (fun b σ₂=>Bin G C lv σ₂ op (.int n) b Q x) x):Ev G C lv σ (.BinOp (.Constant (.int n) c p) op r pos) Q x:=Ev.bin (Ev.int h)
theorem eval_meth {o:Expr}{name:Str}{apos pos:Pos}{args:List Expr}{env:Env}
  (h:eval (.Call (.Attribute o name apos) args [] pos) env=(do let ov←eval o env;standAt apos.atName;methodCall o name apos pos env ov args.length (backTo pos (starEach args env)) (backToKw pos (keywordEach [] env))))
  (hf:methodCallForm args.length (backTo pos (starEach args env)) []=true) (hl:(apos.endLine==pos.line)=true):
  eval (.Call (.Attribute o name apos) args [] pos) env=(do
   let ov←eval o env
   standAt apos.atName
   let (f,first)←holding [ov] (getMethod ov name (do return (←importBound o env).getD true))
   callWith pos f first (backTo pos (starEach args env)) []):=by
 rw [h]
 unfold methodCall calleeOf methodCallPos
 rw [show backToKw pos (keywordEach [] env)= [] from rfl,hf,hl]
 rfl
theorem eval_methC {c:Const}{ck:Nat}{cp:Pos}{name:Str}{apos pos:Pos}{args:List Expr}{env:Env}(hf:methodCallForm args.length (backTo pos (starEach args env)) []=true)(hl:(apos.endLine==pos.line)=true):
 eval (.Call (.Attribute (.Constant c ck cp) name apos) args [] pos) env=(do
  let ov←eval (.Constant c ck cp) env
  standAt apos.atName
  let (f,first)←holding [ov] (getMethod ov name (do return (←importBound (.Constant c ck cp) env).getD true))
  callWith pos f first (backTo pos (starEach args env)) []):=eval_meth (by rfl) hf hl
theorem form_comp {elt:Expr}{gens:List Comprehension}{sc:Scope}{p pos:Pos}{env:Env}:methodCallForm [Expr.ListComp elt gens sc p].length (backTo pos (starEach [.ListComp elt gens sc p] env)) []=true:=by rfl
theorem form_plain {pos:Pos}{args:List Expr}{env:Env}(hf:methodCallForm args.length (backTo pos (starEach args env)) []=true):(backTo pos (starEach args env)).all (fun x=>!x.1)=true:=by
 unfold methodCallForm at hf
 rw [Bool.and_eq_true,Bool.and_eq_true] at hf
 exact hf.1.1
theorem Ev.methC {c:Const}{ck:Nat}{cp:Pos}{name:Str}{apos pos:Pos}{args:List Expr}(f:Value)(h:Ev G C lv σ (.Constant c ck cp) (fun ov σ₁=>Meth G C lv σ₁ ov name f∧Keeps G f∧Args' G C lv σ₁ pos args (fun vs σ₂=>CallP G C lv σ₂ f (ov::vs) Q x) x) x)
 (hf:methodCallForm args.length (backTo pos (starEach args C.env)) []=true) (hl:(apos.endLine==pos.line)=true):Ev G C lv σ (.Call (.Attribute (.Constant c ck cp) name apos) args [] pos) Q x:=Ev.meth f h (eval_methC hf hl) (form_plain hf)
theorem Ev.methN {i:Nat}{y name:Str}{k:NameKind}{ov:AVal}{np apos pos:Pos}{args:List Expr}(f:Value)(hn:C.env.scope.names[i]?=some (y,k))(hv:lv[i]?=some (some ov))(hm:Meth G C lv σ ov name f)(hkp:Keeps G f)(h:Args' G C lv σ pos args (fun vs σ₂=>CallP G C lv σ₂ f (ov::vs) Q x) x)
  (hf:methodCallForm args.length (backTo pos (starEach args C.env)) []=true:=by exact Eq.refl true) (hl:(apos.endLine==pos.line)=true:=by exact Eq.refl true):Ev G C lv σ (.Call (.Attribute (.Name y np) name apos) args [] pos) Q x:=
 Ev.meth f (Ev.name hn hv ⟨hm,hkp,h⟩) (eval_meth (by rfl) hf hl) (form_plain hf)
theorem star_const {c:Const}{k:Nat}{p:Pos}{es:List Expr}{env:Env}:starEach (.Constant c k p::es) env=(false,eval (.Constant c k p) env)::starEach es env:=by rfl
theorem Args'.int {n:Int}{c:Nat}{p pos:Pos}{es:List Expr}{Q:List AVal→Own→Prop}(h:Args' G C lv σ pos es (fun vs=>Q (.int n::vs)) x):Args' G C lv σ pos (.Constant (.int n) c p::es) Q x:=Args'.cons (Ev.int h) star_const
noncomputable def locSide (C:Cx)(y:Str):Bool:=(C.env.kindOf y==some .local)&&!(y==("__debug__":Str))
theorem loc_out {y:Str}(h:locSide C y=true):C.env.kindOf y=some .local∧(y==("__debug__":Str))=false:=by
 unfold locSide at h
 rw [Bool.and_eq_true,Bool.not_eq_true',beq_iff_eq] at h
 exact h
section
variable {Qn:List (Option AVal)→Own→Prop}{Qr:AVal→Own→Prop}{y:Str}{p pos:Pos}
theorem Ex.assignL {e:Expr}(i:Nat){k:NameKind}(hn:C.env.scope.names[i]?=some (y,k))(h:Ev G C lv σ e (fun v σ₁=>Qn (lv.set i (some v)) σ₁) x)(hs:swapsWith e (some (.Name y p)) pos.line C.env=pure false:=by rfl)(hL:C.env.locals=C.L:=by exact rfl)(hk:locSide C y=true:=by exact Eq.refl true):
 Ex G C lv σ (exec (.Assign [.Name y p] e pos) C.env) Qn Qr x:=Ex.assign i hn (.inl ⟨(loc_out hk).1,hL⟩) h hs (loc_out hk).2
theorem Sto.nameL {v:AVal}(i:Nat){k:NameKind}(hn:C.env.scope.names[i]?=some (y,k))(h:Qn (lv.set i (some v)) σ)(hL:C.env.locals=C.L:=by exact rfl)(hk:locSide C y=true:=by exact Eq.refl true):Sto G C lv σ (fun cv=>PySem.assign (.Name y p) C.env cv) v Qn x:=
 Sto.name i hn (.inl ⟨(loc_out hk).1,hL⟩) h (loc_out hk).2
theorem Stos.name {v:AVal}{vs:List AVal}{ts:List Expr}(i:Nat){k:NameKind}(hn:C.env.scope.names[i]?=some (y,k))(h:Stos G C (lv.set i (some v)) σ ts vs Qn x)(hL:C.env.locals=C.L:=by exact rfl)(hk:locSide C y=true:=by exact Eq.refl true):Stos G C lv σ (.Name y p::ts) (v::vs) Qn x:=
 Stos.cons (Sto.nameL i hn h hL hk)
end
theorem EvP.int {n:Int}{c:Nat}{p:Pos}{Q:Option Int→Own→Prop}(h:Q (Option.some n) σ):EvP G C lv σ (Option.some (.Constant (.int n) c p)) Q x:=EvP.some (Ev.int ⟨_,rfl,h⟩)
theorem EvP.name {i:Nat}{y:Str}{k:NameKind}{n:Int}{p:Pos}{Q:Option Int→Own→Prop}(hn:C.env.scope.names[i]?=Option.some (y,k))(hv:lv[i]?=Option.some (Option.some (.int n)))(h:Q (Option.some n) σ):EvP G C lv σ (Option.some (.Name y p)) Q x:=EvP.some (Ev.name hn hv ⟨_,rfl,h⟩)
theorem Ev.sliceBN {i:Nat}{y:Str}{k:NameKind}{b:List UInt8}{np p pos:Pos}{lower upper:Option Expr}(hn:C.env.scope.names[i]?=some (y,k))(hv:lv[i]?=some (some (.bytes b)))(hz:b.length≤16777216)(h:EvP G C lv σ lower (fun lo σ₂=>EvP G C lv σ₂ upper (fun hi σ₃=>Q (.bytes (cut b lo hi)) σ₃) x) x):
 Ev G C lv σ (.Subscript (.Name y np) (.Slice lower upper Option.none p) pos) Q x:=Ev.sliceB (Ev.name hn hv ⟨_,rfl,hz,h⟩)
end
noncomputable def junk (l:List (Option AVal))(i:Nat):Option AVal:=(l[i]?).getD none
noncomputable abbrev At (f:(Nat→Option AVal)→List (Option AVal))(g:Own)(lv:List (Option AVal))(σ:Own):Prop:=lv=f (junk lv)∧σ=g
@[elab_as_elim] theorem stE {P:List (Option AVal)→Own→Prop}{f:(Nat→Option AVal)→List (Option AVal)}{g:Own}{lv:List (Option AVal)}{σ:Own}(e:At f g lv σ)(h: ∀t,P (f t) g):P lv σ:=by
 obtain ⟨a,b⟩:=e
 rw [a,b];exact h _
@[elab_as_elim] theorem gen {α:Type}{P:α→Prop}(a:α)(h: ∀a,P a):P a:=h a
@[elab_as_elim] theorem genE {α:Type}{P:α→Prop}(a:α)(h: ∀b,a=b→P b):P a:=h a rfl
section
variable {G:Gl}{C:Cx}{lv:List (Option AVal)}{σ:Own}{x:Prop}{Q:AVal→Own→Prop}
theorem check_room_spec (hG:G.frag=KF G.w.params)(hrk:1≤C.rk){d:List UInt8}{i n:Int}(h0:0≤i)(h1:i+n≤d.length)(hd:d.length≤16777216)(h:Q .none σ):
  CallP G C lv σ (.ref 82) [.bytes d,.int i,.int n] Q x:=by
 refine CallP.intro (ok_check_room hG) rfl hrk ?_ ?_
 ·exact len3 fun _ _ _=>rfl
 intro g L'
 refine Ex.cons (Ex.ite (Tst.boolop (All.or (Tst.cmpN (i:=1) rfl rfl (Ev.int (Cmp.lt ?_))))))
 rw [decide_eq_false (by exact Int.not_lt_of_ge h0)]
 refine All.or (Tst.cmp (Ev.binNN (i:=1) (j:=2) rfl rfl rfl rfl (Bin.add (Ev.callB (ns_len hG) rfl Keeps.builtin (Args'.name (i:=0) rfl rfl (Args'.nil (CallP.lenB ?_ (by lia))))))))
 refine Cmp.gt ?_
 rw [decide_eq_false (by exact Int.not_lt_of_ge h1)]
 exact All.or_nil (Ex.nil (Ex.nil h))
end
section
variable {G:Gl}{C:Cx}{lv:List (Option AVal)}{σ:Own}{x:Prop}{Q:AVal→Own→Prop}
noncomputable def numOf (l:List UInt8):Int:=l.foldl (fun t c=>t*256+c.toNat) 0
theorem numOf_snoc (l:List UInt8)(c:UInt8):numOf (l++ [c])=numOf l*256+c.toNat:=by simp [numOf]
theorem numOf_nonneg (l:List UInt8):0≤numOf l:=by
 suffices ∀(l:List UInt8) (t:Int),0≤t→0≤l.foldl (fun t c=>t*256+(c.toNat:Int)) t from this l 0 (by exact Int.zero_le_ofNat 0)
 intro l
 induction l with
 |nil=>intro t h;exact h
 |cons c r ih=>intro t h;exact ih _ (by have:=c.toNat_lt;dsimp only;lia)
theorem pow256_le : ∀{n:Nat},n≤4→(256:Int)^n≤256^4
 |0,_=>by decide
 |1,_=>by decide
 |2,_=>by decide
 |3,_=>by decide
 |4,_=>by decide
 |n+5,h=>by lia
theorem numOf_lt (l:List UInt8):numOf l<256^l.length:=by
 suffices ∀(l:List UInt8) (t:Int) (n:Nat),0≤t→t<256^n→l.foldl (fun t c=>t*256+(c.toNat:Int)) t<256^(n+l.length) by have:=this l 0 0 (by exact Int.zero_le_ofNat 0) (by decide);rw [Nat.zero_add] at this;exact this
 intro l
 induction l with
 |nil=>intro t n h h';simpa using h'
 |cons c r ih=>
  intro t n h h'
  have hb:=c.toNat_lt
  have:=ih (t*256+c.toNat) (n+1) (by lia) (by rw [Int.pow_succ];lia)
  refine rwG (List.length_cons ..) ?_;refine rwG (show n+(r.length+1)=n+1+r.length by exact Eq.symm (Nat.succ_add_eq_add_succ n r.length)) ?_
  exact this
theorem cut_length {α:Type}{d:List α}{i n:Nat}(h:i+n≤d.length):(cut d (some (i:Int)) (some ((i:Int)+n))).length=n:=by
 unfold cut
 refine rwG (Option.elim_some ..) ?_;refine rwG (Option.elim_some ..) ?_
 have e1:clipAt d.length (i:Int)=min i d.length:=KBc.clip_lit _ i
 have e2:clipAt d.length ((i:Int)+n)=min (i+n) d.length:=KBc.clip_lit _ (i+n)
 refine rwG (e1 ..) ?_;refine rwG (e2 ..) ?_;refine rwG (List.length_take ..) ?_;refine rwG (List.length_drop ..) ?_;refine rwG (Nat.min_eq_left h ..) ?_;refine rwG (Nat.min_eq_left (Nat.le_trans (Nat.le_add_right i n) h) ..) ?_;refine rwG (Nat.add_sub_cancel_left ..) ?_
 exact Nat.min_eq_left (Nat.le_sub_of_add_le' h)
theorem number_at_spec (hG:G.frag=KF G.w.params)(hrk:2≤C.rk){d:List UInt8}{i n:Int}(h0:0≤i)(hn:0≤n)(hn4:n≤4)(h1:i+n≤d.length)(hd:d.length≤16777216)(h:Q (.int (numOf (cut d (some i) (some (i+n))))) σ):
  CallP G C lv σ (.ref 89) [.bytes d,.int i,.int n] Q x:=by
 refine CallP.intro (ok_number_at hG) rfl (by exact Nat.one_le_of_lt hrk) ?_ ?_
 ·exact len3 fun _ _ _=>rfl
 intro g L'
 refine Ex.cons (Ex.expr (Ev.callG (ns_check_room hG) (.fk hG rfl) (Args'.name (i:=0) rfl rfl (Args'.name (i:=1) rfl rfl (Args'.name (i:=2) rfl rfl (Args'.nil ?_))))))
 refine check_room_spec hG (show 1≤C.rk - 1 by exact Nat.le_sub_one_of_lt hrk) h0 h1 hd ?_
 refine Ex.cons (Ex.assignL 3 rfl (Ev.int ?_))
 revert h
 refine genE (cut d (some i) (some (i+n))) ?_
 intro l hl h
 refine Ex.cons (Ex.for (l.map fun c=> .int (c.toNat:Int)) (fun k lv σ'=>σ'=σ∧ ∃t,lv= [some (.bytes d),some (.int i),some (.int n),some (.int (numOf (l.take k))),t,none]) ?_ ?_ ?_)
 ·refine Ev.sliceBN (i:=0) rfl rfl hd (EvP.name (i:=1) rfl rfl (EvP.some (Ev.binNN (i:=1) (j:=2) rfl rfl rfl rfl (Bin.add ⟨_,rfl,?_⟩))))
  refine rwG (hl ..) ?_
  exact ⟨.bytes l,rfl,none,rfl⟩
 ·rintro k v lv σ' hk ⟨rfl,t,rfl⟩
  rw [List.getElem?_map] at hk
  cases hc:l[k]? with
  |none=>rw [hc] at hk;cases hk
  |some c=>
  rw [hc] at hk
  cases hk
  refine Sto.nameL 4 rfl ?_
  have hb:=c.toNat_lt
  have hlen:l.length≤4:=by
   obtain ⟨a,rfl⟩:=Int.eq_ofNat_of_zero_le h0
   obtain ⟨b,rfl⟩:=Int.eq_ofNat_of_zero_le hn
   refine rwGr (hl ..) ?_;refine rwG (cut_length (Int.ofNat_le.mp h1) ..) ?_
   exact Int.ofNat_le.mp hn4
  have hk:k<l.length:=(List.getElem?_eq_some_iff.mp hc).1
  have hlt:=numOf_lt (l.take k)
  have h0':=numOf_nonneg (l.take k)
  have hlt4:numOf (l.take k)<256^4:=Int.lt_of_lt_of_le hlt (by
   have:(l.take k).length≤4:=Nat.le_trans (by rw [List.length_take];exact Nat.min_le_right _ _) hlen
   exact pow256_le this)
  refine Ex.cons (Ex.assignL 3 rfl (Ev.bin (Ev.binNI (i:=3) rfl rfl (Bin.shl (Ev.name (i:=4) rfl rfl (Bin.or ?_)) (by decide) ?_))))
  ·refine Ex.nil ⟨rfl,some (.int (c.toNat:Int)),?_⟩
   have e1:(numOf (l.take k)*2^(8:Int).toNat)=numOf (l.take k)*256:=rfl
   refine rwG (e1 ..) ?_;refine rwG (bitOr_low h0' (by exact Int.natCast_nonneg c.toNat) (by exact Int.lt_toNat.mp hb) ..) ?_;refine rwG (List.take_add_one ..) ?_;refine rwG (hc ..) ?_;refine rwG (Option.toList_some ..) ?_;refine rwG (numOf_snoc ..) ?_
   rfl
  ·have:=intBits_le_64 (k:=numOf (l.take k)) (by lia) (by lia)
   lia
 ·rintro lv σ' ⟨rfl,t,rfl⟩
  refine Ex.cons (Ex.ret (Ev.name (i:=3) rfl rfl ?_))
  refine rwG (List.length_map ..) ?_;refine rwG (List.take_length ..) ?_
  exact h
end
section
variable {G:Gl}{C:Cx}{lv:List (Option AVal)}{σ:Own}{x:Prop}{Q:AVal→Own→Prop}
noncomputable def beI (v:Int)(n:Nat):List Int:=(List.range n).map fun (i:Nat)=>v/256^(n - 1 - i) %256
noncomputable def be (v:Int)(n:Nat):List UInt8:=(beI v n).map fun n=>n.toNat.toUInt8
theorem be_length (v:Int)(n:Nat):(be v n).length=n:=by simp [be,beI]
theorem beI_in (v:Int)(n:Nat): ∀k∈beI v n,0≤k∧k<256:=by
 intro k hk
 obtain ⟨i,_,rfl⟩:=List.mem_map.mp hk
 exact ⟨Int.emod_nonneg _ (by decide),Int.emod_lt_of_pos _ (by decide)⟩
theorem u32_at_spec (hG:G.frag=KF G.w.params)(hrk:3≤C.rk){d:List UInt8}{i:Int}(h0:0≤i)(h1:i+4≤d.length)(hd:d.length≤16777216)(h:Q (.int (numOf (cut d (some i) (some (i+4))))) σ):
  CallP G C lv σ (.ref 96) [.bytes d,.int i] Q x:=by
 refine CallP.intro (ok_u32_at hG) rfl (by exact Nat.one_le_of_lt hrk) ?_ ?_
 ·exact len2 fun _ _=>rfl
 intro g L'
 refine Ex.cons (Ex.ret (Ev.callG (ns_number_at hG) (.fk hG rfl) (Args'.name (i:=0) rfl rfl (Args'.name (i:=1) rfl rfl (Args'.int (Args'.nil ?_))))))
 exact number_at_spec hG (show 2≤C.rk - 1 by exact Nat.le_sub_one_of_lt hrk) h0 (by decide) (by decide) h1 hd h
theorem number_octets_spec (hG:G.frag=KF G.w.params)(hrk:1≤C.rk){v:Int}{n:Nat}(h0:0≤v)(hn:n=2∨n=4)(h1:v<256^n)(h:Q (.bytes (be v n)) σ):
  CallP G C lv σ (.ref 189) [.int v,.int n] Q x:=by
 refine CallP.intro (ok_number_octets hG) rfl (by exact Nat.one_le_of_lt hrk) ?_ ?_
 ·exact len2 fun _ _=>rfl
 intro g L'
 have hpow: ∀k:Nat,(2:Int)^(8*k)=256^k:=fun k=>by rw [Int.pow_mul];rfl
 have hfd: ∀k:Nat,v.fdiv (2^(8*(k:Int)).toNat)=v/256^k:=fun k=>by
  rw [show (8*(k:Int)).toNat=8*k from rfl,hpow,Int.fdiv_eq_ediv_of_nonneg _ (by exact Int.le_of_lt (Int.pow_pos (by decide)))]
 refine Ex.cons (Ex.ite (Tst.boolop (All.or (Tst.cmpN (i:=0) rfl rfl (Ev.int (Cmp.lt ?_))))))
 rw [decide_eq_false (by exact Int.not_lt_of_ge h0)]
 refine All.or (Tst.cmp (Ev.binN (i:=0) rfl rfl (Ev.binI (Ev.name (i:=1) rfl rfl (Bin.mulL (Bin.shr (Ev.int (Cmp.gt ?_)) (by exact Int.zero_le_ofNat (8*n))) (by decide) (by decide))))))
 rw [hfd,Int.ediv_eq_zero_of_lt h0 h1,decide_eq_false (by decide)]
 refine All.or_nil (Ex.nil ?_)
 refine Ex.cons (Ex.ret ?_)
 refine Ev.callB (ns_bytes hG) rfl Keeps.type (Args'.cons ?_)
 refine Ev.comp [none,none,some 0] ((List.range n).map fun (i:Nat)=> .int ((n:Int) - 1+(i:Nat)* -1)) (fun k out σ'=>σ'=σ∧out=((beI v n).take k).map .int) ?_ ?_ ?_ ?_
 ·refine Ev.callB (ns_range hG) rfl Keeps.type ?_
  refine Args'.cons (Ev.binNI (i:=1) rfl rfl (Bin.sub ?_))
  refine Args'.cons (Ev.neg (Ev.int ⟨_,rfl,?_⟩))
  refine Args'.cons (Ev.neg (Ev.int ⟨_,rfl,Args'.nil ?_⟩))
  refine CallP.range3 n ⟨.rng _ _ _,rfl,rfl⟩ ?_ (by lia) (by lia) (by decide) (by decide) (by decide) (by decide) (by decide) (by lia)
  rcases hn with rfl|rfl<;>decide
 ·rintro k w out σ' hk ⟨rfl,rfl⟩ cl Cc h0C oC
  rw [List.getElem?_map] at hk
  have hkn:k<n:=by
   rcases Nat.lt_or_ge k n with q|q
   ·exact q
   ·rw [List.getElem?_eq_none (by simpa using q)] at hk;cases hk
  rw [List.getElem?_range hkn] at hk
  cases hk
  refine ⟨_,?_,CTgt.name (i:=1) oC h0C rfl rfl (by decide),Tsts.nil ?_⟩
  ·intro j w hw
   match j,hw with
   |2,hw=>exact hw
  ·show Ev _ _ _ _ _ _ _
   refine Ev.bin (Ev.binN (i:=2) rfl rfl (Ev.binI (Ev.name (i:=1) rfl rfl (Bin.mulL (Bin.shr (Ev.int (Bin.and ⟨rfl,?_⟩)) ?_) (by decide) (by decide)))))
   ·rw [bitAnd_m8,List.take_add_one]
    have e1:(n:Int) - 1+(k:Nat)* -1=((n - 1 - k:Nat):Int):=by lia
    have e2:(beI v n)[k]?=some (v/256^(n - 1 - k) %256):=by
     unfold beI
     rw [List.getElem?_map,List.getElem?_range hkn];rfl
    rw [e1,hfd,e2,Option.toList_some,List.map_append]
    rfl
   ·lia
 ·rintro out σ' ⟨rfl,rfl⟩
  rw [List.length_map,List.length_range,List.take_of_length_le (by simp [beI])]
  exact Args'.nil (CallP.bytesL (beI_in v n) (by simp [beI];lia) h)
 ·simp;lia
end
section
variable {G:Gl}(hG:G.frag=KF G.w.params)
include hG
theorem mk_OctetsIn :MakeOk G.frag clsIn 111:=by rw [hG];exact ⟨rfl,rfl,rfl⟩
theorem mo_OctetsIn_need :MethOk G.frag clsIn "need" 118:=by rw [hG];exact ⟨rfl,rfl,rfl⟩
theorem mo_OctetsIn_number :MethOk G.frag clsIn "number" 125:=by rw [hG];exact ⟨rfl,rfl,rfl⟩
theorem mo_OctetsIn_u16 :MethOk G.frag clsIn "u16" 139:=by rw [hG];exact ⟨rfl,rfl,rfl⟩
theorem mo_OctetsIn_u32 :MethOk G.frag clsIn "u32" 160:=by rw [hG];exact ⟨rfl,rfl,rfl⟩
theorem mo_OctetsIn_tag :MethOk G.frag clsIn "tag" 165:=by rw [hG];exact ⟨rfl,rfl,rfl⟩
theorem mk_OctetsOut :MakeOk G.frag clsOut 203:=by rw [hG];exact ⟨rfl,rfl,rfl⟩
theorem mo_OctetsOut_u16 :MethOk G.frag clsOut "u16" 217:=by rw [hG];exact ⟨rfl,rfl,rfl⟩
theorem mo_OctetsOut_u32 :MethOk G.frag clsOut "u32" 238:=by rw [hG];exact ⟨rfl,rfl,rfl⟩
theorem mo_OctetsOut_tag :MethOk G.frag clsOut "tag" 243:=by rw [hG];exact ⟨rfl,rfl,rfl⟩
theorem mo_OctetsOut_rows :MethOk G.frag clsOut "rows" 248:=by rw [hG];exact ⟨rfl,rfl,rfl⟩
theorem mo_OctetsOut_add :MethOk G.frag clsOut "add" 255:=by rw [hG];exact ⟨rfl,rfl,rfl⟩
theorem mo_OctetsOut_octets :MethOk G.frag clsOut "octets" 269:=by rw [hG];exact ⟨rfl,rfl,rfl⟩
theorem mk_Record :MakeOk G.frag clsRecord 298:=by rw [hG];exact ⟨rfl,rfl,rfl⟩
theorem mo_Record_end :MethOk G.frag clsRecord "end" 305:=by rw [hG];exact ⟨rfl,rfl,rfl⟩
theorem fo_OctetsIn_data :FieldOk G.frag clsIn "data":=by rw [hG];exact ⟨rfl,rfl,rfl⟩
theorem so_OctetsIn_data :SetOk G.frag clsIn "data":=by rw [hG];exact ⟨rfl,rfl,rfl,rfl⟩
theorem fo_OctetsIn_at :FieldOk G.frag clsIn "at":=by rw [hG];exact ⟨rfl,rfl,rfl⟩
theorem so_OctetsIn_at :SetOk G.frag clsIn "at":=by rw [hG];exact ⟨rfl,rfl,rfl,rfl⟩
theorem fo_OctetsOut_made :FieldOk G.frag clsOut "made":=by rw [hG];exact ⟨rfl,rfl,rfl⟩
theorem so_OctetsOut_made :SetOk G.frag clsOut "made":=by rw [hG];exact ⟨rfl,rfl,rfl,rfl⟩
theorem fo_Record_tag :FieldOk G.frag clsRecord "tag":=by rw [hG];exact ⟨rfl,rfl,rfl⟩
theorem so_Record_tag :SetOk G.frag clsRecord "tag":=by rw [hG];exact ⟨rfl,rfl,rfl,rfl⟩
theorem fo_Record_total :FieldOk G.frag clsRecord "total":=by rw [hG];exact ⟨rfl,rfl,rfl⟩
theorem so_Record_total :SetOk G.frag clsRecord "total":=by rw [hG];exact ⟨rfl,rfl,rfl,rfl⟩
theorem fo_Record_begin :FieldOk G.frag clsRecord "begin":=by rw [hG];exact ⟨rfl,rfl,rfl⟩
theorem so_Record_begin :SetOk G.frag clsRecord "begin":=by rw [hG];exact ⟨rfl,rfl,rfl,rfl⟩
theorem fo_Record_length :FieldOk G.frag clsRecord "length":=by rw [hG];exact ⟨rfl,rfl,rfl⟩
theorem so_Record_length :SetOk G.frag clsRecord "length":=by rw [hG];exact ⟨rfl,rfl,rfl,rfl⟩
theorem fo_Record_where :FieldOk G.frag clsRecord "where":=by rw [hG];exact ⟨rfl,rfl,rfl⟩
theorem so_Record_where :SetOk G.frag clsRecord "where":=by rw [hG];exact ⟨rfl,rfl,rfl,rfl⟩
end
section
variable {G:Gl}{C:Cx}{lv:List (Option AVal)}{σ:Own}{x:Prop}{Q:AVal→Own→Prop}
noncomputable abbrev outObj (m:Addr):OObj:= .inst clsOut [("made",.ref m)]
theorem out_init (hG:G.frag=KF G.w.params)(hrk:1≤C.rk){a:Addr}{j:Nat}(hj:σ[j]?=some (a,.inst clsOut []))(h: ∀m,Q .none (List.set (σ++ [(m,OObj.barr [])]:Own) j (a,outObj m))):
  CodeCN G C lv σ 203 [.ref a] Q x:=by
 refine CodeN.intro (ok_OctetsOut__init_ hG) rfl hrk ?_ ?_
 ·exact len1 fun _=>rfl
 intro g L'
 refine ExN.cons (ExN.setAttr ?_)
 refine EvN.call (Ev.built (ns_bytearray hG) rfl ⟨_,rfl,Keeps.type,ArgsN.nil ?_⟩)
 refine CallN.bytearray fun m=>?_
 refine Ev.name (i:=0) rfl rfl ⟨a,clsOut,[],j,rfl,?_,so_OctetsOut_made hG,by decide,ExN.nil (h m)⟩
 rw [List.getElem?_append_left (List.getElem?_eq_some_iff.mp hj).1]
 exact hj
theorem out_new (hG:G.frag=KF G.w.params)(hrk:2≤C.rk)(h: ∀a m,Q (.ref a) (σ++ [(a,outObj m),(m,.barr [])])):CallN G C lv σ (.ref 272) [] Q x:=by
 refine CallN.make (mk_OctetsOut hG) (by exact Nat.one_le_of_lt hrk) fun a A=>?_
 refine out_init hG (show 1≤C.rk - 1 by exact Nat.le_sub_one_of_lt hrk) (j:=σ.length) (by simp) fun m=>⟨rfl,?_⟩
 have e:((σ++ [(a,OObj.inst clsOut [])]++ [(m,OObj.barr [])]).set σ.length (a,outObj m))=σ++ [(a,outObj m),(m,.barr [])]:=by
  simp
 rw [e]
 exact h a m
theorem out_u32 (hG:G.frag=KF G.w.params)(hrk:2≤C.rk){a m:Addr}{i j:Nat}{b:List UInt8}{v:Int}(hi:σ[i]?=some (a,outObj m))(hj:σ[j]?=some (m,.barr b))(h0:0≤v)(h1:v<256^4)(hz:b.length≤16000000)(h:Q .none (σ.set j (m,.barr (b++be v 4)))):
  CallN G C lv σ (.ref 238) [.ref a,.int v] Q x:=by
 refine CallN.intro (ok_OctetsOut_u32 hG) rfl (by exact Nat.one_le_of_lt hrk) ?_ ?_
 ·exact len2 fun _ _=>rfl
 intro g L'
 refine ExN.cons (ExN.expr (EvN.meth (.builtin "bytearray.extend") ?_))
 refine Ev.attrN (i:=0) rfl rfl (Attr.inst hi (fo_OctetsOut_made hG) rfl ⟨Meth.extend hj,Keeps.builtin,?_⟩)
 refine ArgsN.cons (.of (Ev.callG (ns_number_octets hG) (.fk hG rfl) ?_))
 refine Args'.name (i:=1) rfl rfl (Args'.int (Args'.nil ?_))
 refine number_octets_spec hG (show 1≤C.rk - 1 by exact Nat.le_sub_one_of_lt hrk) (n:=4) h0 (.inr rfl) h1 ?_
 refine ArgsN.nil (CallN.extend hj (by rw [be_length];lia) (ExN.nil h))
theorem out_u16 (hG:G.frag=KF G.w.params)(hrk:2≤C.rk){a m:Addr}{i j:Nat}{b:List UInt8}{v:Int}(hi:σ[i]?=some (a,outObj m))(hj:σ[j]?=some (m,.barr b))(h0:0≤v)(h1:v<256^2)(hz:b.length≤16000000)(h:Q .none (σ.set j (m,.barr (b++be v 2)))):
  CallN G C lv σ (.ref 217) [.ref a,.int v] Q x:=by
 refine CallN.intro (ok_OctetsOut_u16 hG) rfl (by exact Nat.one_le_of_lt hrk) ?_ ?_
 ·exact len2 fun _ _=>rfl
 intro g L'
 refine ExN.cons (ExN.expr (EvN.meth (.builtin "bytearray.extend") ?_))
 refine Ev.attrN (i:=0) rfl rfl (Attr.inst hi (fo_OctetsOut_made hG) rfl ⟨Meth.extend hj,Keeps.builtin,?_⟩)
 refine ArgsN.cons (.of (Ev.callG (ns_number_octets hG) (.fk hG rfl) ?_))
 refine Args'.name (i:=1) rfl rfl (Args'.int (Args'.nil ?_))
 refine number_octets_spec hG (show 1≤C.rk - 1 by exact Nat.le_sub_one_of_lt hrk) (n:=2) h0 (.inl rfl) h1 ?_
 refine ArgsN.nil (CallN.extend hj (by rw [be_length];lia) (ExN.nil h))
theorem out_add (hG:G.frag=KF G.w.params)(hrk:1≤C.rk){a m:Addr}{i j:Nat}{b c:List UInt8}(hi:σ[i]?=some (a,outObj m))(hj:σ[j]?=some (m,.barr b))(hz:b.length+c.length≤16777216)(h:Q .none (σ.set j (m,.barr (b++c)))):
  CallN G C lv σ (.ref 255) [.ref a,.bytes c] Q x:=by
 refine CallN.intro (ok_OctetsOut_add hG) rfl (by exact Nat.one_le_of_lt hrk) ?_ ?_
 ·exact len2 fun _ _=>rfl
 intro g L'
 refine ExN.cons (ExN.expr (EvN.meth (.builtin "bytearray.extend") ?_))
 refine Ev.attrN (i:=0) rfl rfl (Attr.inst hi (fo_OctetsOut_made hG) rfl ⟨Meth.extend hj,Keeps.builtin,?_⟩)
 refine ArgsN.cons (.of (Ev.name (i:=1) rfl rfl ?_))
 exact ArgsN.nil (CallN.extend hj hz (ExN.nil h))
theorem out_octets (hG:G.frag=KF G.w.params)(hrk:1≤C.rk){a m:Addr}{i j:Nat}{b:List UInt8}(hi:σ[i]?=some (a,outObj m))(hj:σ[j]?=some (m,.barr b))(hz:b.length≤16777216)(h:Q (.bytes b) σ):
  CallP G C lv σ (.ref 269) [.ref a] Q x:=by
 refine CallP.intro (ok_OctetsOut_octets hG) rfl (by exact Nat.one_le_of_lt hrk) ?_ ?_
 ·exact len1 fun _=>rfl
 intro g L'
 refine Ex.cons (Ex.ret (Ev.callB (ns_bytes hG) rfl Keeps.type ?_))
 refine Args'.cons (Ev.attrN (i:=0) rfl rfl (Attr.inst hi (fo_OctetsOut_made hG) rfl ?_))
 exact Args'.nil (CallP.bytesA hj hz h)
end
section
variable {G:Gl}{C:Cx}{lv:List (Option AVal)}{σ:Own}{x:Prop}{Q:AVal→Own→Prop}
noncomputable abbrev inObj (d:List UInt8)(i:Int):OObj:= .inst clsIn [("data",.bytes d),("at",.int i)]
theorem set_set_own {σ:Own}{j:Nat}{p q:Addr×OObj}:(σ.set j p).set j q=σ.set j q:=List.set_set ..
theorem get_set_own {σ:Own}{j:Nat}{p q:Addr×OObj}(h:σ[j]?=some p):(σ.set j q)[j]?=some q:=by
 have:=(List.getElem?_eq_some_iff.mp h).1
 simp [this]
theorem in_init (hG:G.frag=KF G.w.params)(hrk:1≤C.rk){a:Addr}{j:Nat}{d:List UInt8}{i:Int}(hj:σ[j]?=some (a,.inst clsIn []))(h:Q .none (σ.set j (a,inObj d i))):
  CodeC G C lv σ 111 [.ref a,.bytes d,.int i] Q x:=by
 refine CodeP.introD (ok_OctetsIn__init_ hG) rfl hrk ?_ ?_
 ·intro cvs A s Q E X hl q
  obtain ⟨a,r,rfl,e1⟩:=lenS (n:=2) hl
  obtain ⟨b,r,rfl,e2⟩:=lenS (n:=1) e1
  obtain ⟨c,rfl⟩:=List.length_eq_one_iff.mp e2
  with_unfolding_all refine nd_load (a:=104) (X _ _ (by rw [hG];rfl)) ?_
  exact wpAny_of_eq (by rfl) q
 intro g L'
 refine Ex.cons (Ex.setAttr (Ev.name (i:=1) rfl rfl (Ev.name (i:=0) rfl rfl ⟨a,clsIn,[],j,rfl,hj,so_OctetsIn_data hG,by decide,?_⟩)))
 refine Ex.cons (Ex.setAttr (Ev.name (i:=2) rfl rfl (Ev.name (i:=0) rfl rfl ⟨a,clsIn,_,j,rfl,get_set_own hj,so_OctetsIn_at hG,Nat.le_of_ble_eq_true rfl,?_⟩)))
 rw [set_set_own]
 exact Ex.nil h
theorem in_new (hG:G.frag=KF G.w.params)(hrk:2≤C.rk){d:List UInt8}{i:Int}(h: ∀a,Q (.ref a) (σ++ [(a,inObj d i)])):CallP G C lv σ (.ref 180) [.bytes d,.int i] Q x:=by
 refine CallP.make (mk_OctetsIn hG) (by exact Nat.one_le_of_lt hrk) fun a A=>?_
 refine in_init hG (show 1≤C.rk - 1 by exact Nat.le_sub_one_of_lt hrk) (j:=σ.length) (by simp) ⟨rfl,?_⟩
 have e:((σ++ [(a,OObj.inst clsIn [])]).set σ.length (a,inObj d i))=σ++ [(a,inObj d i)]:=by simp
 rw [e]
 exact h a
theorem in_need (hG:G.frag=KF G.w.params)(hrk:2≤C.rk){a:Addr}{j:Nat}{d:List UInt8}{i n:Int}(hj:σ[j]?=some (a,inObj d i))(h0:0≤i)(h1:i+n≤d.length)(hd:d.length≤16777216)(h:Q .none σ):
  CallP G C lv σ (.ref 118) [.ref a,.int n] Q x:=by
 refine CallP.intro (ok_OctetsIn_need hG) rfl (by exact Nat.one_le_of_lt hrk) ?_ ?_
 ·exact len2 fun _ _=>rfl
 intro g L'
 refine Ex.cons (Ex.expr (Ev.callG (ns_check_room hG) (.fk hG rfl) ?_))
 refine Args'.cons (Ev.attrN (i:=0) rfl rfl (Attr.inst hj (fo_OctetsIn_data hG) rfl ?_))
 refine Args'.cons (Ev.attrN (i:=0) rfl rfl (Attr.inst hj (fo_OctetsIn_at hG) rfl ?_))
 refine Args'.name (i:=1) rfl rfl (Args'.nil ?_)
 exact check_room_spec hG (show 1≤C.rk - 1 by exact Nat.le_sub_one_of_lt hrk) h0 h1 hd (Ex.nil h)
theorem in_number (hG:G.frag=KF G.w.params)(hrk:3≤C.rk){a:Addr}{j:Nat}{d:List UInt8}{i n:Int}(hj:σ[j]?=some (a,inObj d i))(h0:0≤i)(hn:0≤n)(hn4:n≤4)(h1:i+n≤d.length)(hd:d.length≤16777216)(h:Q (.int (numOf (cut d (some i) (some (i+n))))) (σ.set j (a,inObj d (i+n)))):
  CallP G C lv σ (.ref 125) [.ref a,.int n] Q x:=by
 refine CallP.intro (ok_OctetsIn_number hG) rfl (by exact Nat.one_le_of_lt hrk) ?_ ?_
 ·exact len2 fun _ _=>rfl
 intro g L'
 refine Ex.cons (Ex.assignL 2 rfl (Ev.callG (ns_number_at hG) (.fk hG rfl) ?_))
 refine Args'.cons (Ev.attrN (i:=0) rfl rfl (Attr.inst hj (fo_OctetsIn_data hG) rfl ?_))
 refine Args'.cons (Ev.attrN (i:=0) rfl rfl (Attr.inst hj (fo_OctetsIn_at hG) rfl ?_))
 refine Args'.name (i:=1) rfl rfl (Args'.nil ?_)
 refine number_at_spec hG (show 2≤C.rk - 1 by exact Nat.le_sub_one_of_lt hrk) h0 hn hn4 h1 hd ?_
 refine Ex.cons (Ex.setAttr (Ev.bin (Ev.attrN (i:=0) rfl rfl (Attr.inst hj (fo_OctetsIn_at hG) rfl (Ev.name (i:=1) rfl rfl (Bin.add ?_))))))
 refine Ev.name (i:=0) rfl rfl ⟨a,clsIn,_,j,rfl,hj,so_OctetsIn_at hG,Nat.le_of_ble_eq_true rfl,?_⟩
 refine Ex.cons (Ex.ret (Ev.name (i:=2) rfl rfl ?_))
 exact h
theorem in_u32 (hG:G.frag=KF G.w.params)(hrk:4≤C.rk){a:Addr}{j:Nat}{d:List UInt8}{i:Int}(hj:σ[j]?=some (a,inObj d i))(h0:0≤i)(h1:i+4≤d.length)(hd:d.length≤16777216)(h:Q (.int (numOf (cut d (some i) (some (i+4))))) (σ.set j (a,inObj d (i+4)))):
  CallP G C lv σ (.ref 160) [.ref a] Q x:=by
 refine CallP.intro (ok_OctetsIn_u32 hG) rfl (by exact Nat.one_le_of_lt hrk) ?_ ?_
 ·exact len1 fun _=>rfl
 intro g L'
 refine Ex.cons (Ex.ret (Ev.methN (.ref 125) (i:=0) rfl rfl (Meth.inst hj (mo_OctetsIn_number hG) rfl) (.fk hG rfl) (?_)))
 refine Args'.int (Args'.nil ?_)
 exact in_number hG (show 3≤C.rk - 1 by exact Nat.le_sub_one_of_lt hrk) hj h0 (by decide) (by decide) h1 hd h
theorem in_u16 (hG:G.frag=KF G.w.params)(hrk:4≤C.rk){a:Addr}{j:Nat}{d:List UInt8}{i:Int}(hj:σ[j]?=some (a,inObj d i))(h0:0≤i)(h1:i+2≤d.length)(hd:d.length≤16777216)(h:Q (.int (numOf (cut d (some i) (some (i+2))))) (σ.set j (a,inObj d (i+2)))):
  CallP G C lv σ (.ref 139) [.ref a] Q x:=by
 refine CallP.intro (ok_OctetsIn_u16 hG) rfl (by exact Nat.one_le_of_lt hrk) ?_ ?_
 ·exact len1 fun _=>rfl
 intro g L'
 refine Ex.cons (Ex.ret (Ev.methN (.ref 125) (i:=0) rfl rfl (Meth.inst hj (mo_OctetsIn_number hG) rfl) (.fk hG rfl) (?_)))
 refine Args'.int (Args'.nil ?_)
 exact in_number hG (show 3≤C.rk - 1 by exact Nat.le_sub_one_of_lt hrk) hj h0 (by decide) (by decide) h1 hd h
end
section
variable {G:Gl}{C:Cx}{lv:List (Option AVal)}{σ:Own}{x:Prop}{Q:AVal→Own→Prop}
noncomputable abbrev penObj (n c:Int):OObj:= .list [.int n,.int c]
noncomputable def drawD (n c many:Int):Int:=if n>0 then n %many else (7*(c+1)*(c+1)+3*(c+1)+2)/5 %many
noncomputable def drawN (n many:Int):Int:=if n>0 then n/many else n
theorem fmod_pos {a b:Int}(h:0<b):a.fmod b=a %b:=Int.fmod_eq_emod_of_nonneg _ (Int.le_of_lt h)
theorem fdiv_pos {a b:Int}(h:0<b):a.fdiv b=a/b:=Int.fdiv_eq_ediv_of_nonneg _ (Int.le_of_lt h)
theorem law_draw_spec (hG:G.frag=KF G.w.params)(hrk:1≤C.rk){a:Addr}{j:Nat}{n c many:Int}(hj:σ[j]?=some (a,penObj n c))(hc0:0≤c)(hc:c≤1000000)(hm:0<many)(hm2:many≤1000000)
  (h:Q (.int (drawD n c many)) (σ.set j (a,penObj (drawN n many) (c+1)))):CallP G C lv σ (.ref 437) [.ref a,.int many] Q x:=by
 refine CallP.intro (ok_law_draw hG) rfl (by exact Nat.one_le_of_lt hrk) ?_ ?_
 ·exact len2 fun _ _=>rfl
 intro g L'
 have hjl:=(List.getElem?_eq_some_iff.mp hj).1
 refine Ex.cons (Ex.setItem (Ev.bin (Ev.subN (i:=0) rfl rfl (Ev.int (Item.own hj (Ev.int (Bin.add ?_)) (by decide) (by decide) rfl)))))
 refine Ev.name (i:=0) rfl rfl (Ev.int (SetI.list hj (by decide) (by simp) (by decide) ?_))
 have hj2:(σ.set j (a,penObj n (c+1)))[j]?=some (a,penObj n (c+1)):=get_set_own hj
 show Ex _ _ _ (σ.set j (a,penObj n (c+1))) _ _ _ _
 refine Ex.cons (Ex.ite (Tst.cmp (Ev.subN (i:=0) rfl rfl (Ev.int (Item.own hj2 (Ev.int (Cmp.gt ?_)) (by decide) (by decide) rfl)))))
 by_cases hn:0<n
 ·rw [decide_eq_true hn,if_pos rfl]
  refine Ex.cons (Ex.assignL 2 rfl (Ev.bin (Ev.subN (i:=0) rfl rfl (Ev.int (Item.own hj2 (Ev.name (i:=1) rfl rfl (Bin.mod ?_ (by exact Ne.symm (Int.ne_of_lt hm)))) (by decide) (by decide) rfl)))))
  refine Ex.cons (Ex.setItem (Ev.bin (Ev.subN (i:=0) rfl rfl (Ev.int (Item.own hj2 (Ev.name (i:=1) rfl rfl (Bin.floordiv ?_ (by exact Ne.symm (Int.ne_of_lt hm)) (by lia))) (by decide) (by decide) rfl)))))
  refine Ev.name (i:=0) rfl rfl (Ev.int (SetI.list hj2 (by decide) (by simp) (by decide) ?_))
  refine Ex.cons (Ex.ret (Ev.name (i:=2) rfl rfl ?_))
  rw [set_set_own,fmod_pos hm,fdiv_pos hm]
  unfold drawD drawN at h
  rw [if_pos hn,if_pos hn] at h
  exact h
 ·rw [decide_eq_false hn,if_neg (by decide)]
  refine Ex.nil (Ex.cons (Ex.ret ?_))
  have p1: ∀{Q':AVal→Own→Prop},Q' (.int (c+1)) (σ.set j (a,penObj n (c+1)))→Item G ((D_law_draw G).cx C g L') [some (.ref a),some (.int many),none] (σ.set j (a,penObj n (c+1))) (.ref a) (.int 1) Q' x:=fun hq=>Item.own hj2 hq (by decide) (by decide) rfl
  refine Ev.bin (Ev.bin (Ev.bin (Ev.bin (Ev.bin (Ev.binI ?_)))))
  refine Ev.subN (i:=0) rfl rfl (Ev.int (p1 ?_))
  refine Bin.mulL ?_ (by decide) (by decide)
  refine Ev.subN (i:=0) rfl rfl (Ev.int (p1 ?_))
  refine Bin.mulL ?_ (by lia) (by lia)
  refine Ev.binI ?_
  refine Ev.subN (i:=0) rfl rfl (Ev.int (p1 ?_))
  refine Bin.mulL ?_ (by decide) (by decide)
  refine Bin.add ?_
  refine Ev.int (Bin.add ?_)
  refine Ev.int (Bin.floordiv ?_ (by decide) (by decide))
  refine Ev.name (i:=1) rfl rfl (Bin.mod ?_ (by exact Ne.symm (Int.ne_of_lt hm)))
  rw [fmod_pos hm,fdiv_pos (by decide)]
  unfold drawD drawN at h
  rw [if_neg hn,if_neg hn] at h
  exact h
end
section
variable {G:Gl}{C:Cx}{lv:List (Option AVal)}{σ:Own}{x:Prop}{Q:AVal→Own→Prop}
theorem law_octets_spec (hG:G.frag=KF G.w.params)(hrk:1≤C.rk){v:Int}{n:Nat}(hn:n=2∨n=4)(h:Q (.bytes (be v n)) σ):
  CallP G C lv σ (.ref 447) [.int v,.int n] Q x:=by
 refine CallP.intro (ok_law_octets hG) rfl (by exact Nat.one_le_of_lt hrk) ?_ ?_
 ·exact len2 fun _ _=>rfl
 intro g L'
 refine Ex.cons (Ex.ret ?_)
 refine Ev.callB (ns_bytes hG) rfl Keeps.type (Args'.cons ?_)
 refine Ev.comp [none,none,some 0] ((List.range n).map fun (i:Nat)=> .int ((n:Int) - 1+(i:Nat)* -1)) (fun k out σ'=>σ'=σ∧out=((beI v n).take k).map .int) ?_ ?_ ?_ ?_
 ·refine Ev.callB (ns_range hG) rfl Keeps.type ?_
  refine Args'.cons (Ev.binNI (i:=1) rfl rfl (Bin.sub ?_))
  refine Args'.cons (Ev.neg (Ev.int ⟨_,rfl,?_⟩))
  refine Args'.cons (Ev.neg (Ev.int ⟨_,rfl,Args'.nil ?_⟩))
  refine CallP.range3 n ⟨.rng _ _ _,rfl,rfl⟩ ?_ (by lia) (by lia) (by decide) (by decide) (by decide) (by decide) (by decide) (by lia)
  rcases hn with rfl|rfl<;>decide
 ·rintro k w out σ' hk ⟨rfl,rfl⟩ cl Cc h0C oC
  rw [List.getElem?_map] at hk
  have hkn:k<n:=by
   rcases Nat.lt_or_ge k n with q|q
   ·exact q
   ·rw [List.getElem?_eq_none (by simpa using q)] at hk;cases hk
  rw [List.getElem?_range hkn] at hk
  obtain rfl:AVal.int ((n:Int) - 1+(k:Nat)* -1)=w:=Option.some.inj hk
  have e1:(n:Int) - 1+(k:Nat)* -1=((n - 1 - k:Nat):Int):=by lia
  have hp:(256:Int)^(n - 1 - k)≤256^3∧(0:Int)<256^(n - 1 - k):=by
   have h3:n - 1 - k≤3:=by lia
   match n - 1 - k,h3 with
   |0,_=>decide
   |1,_=>decide
   |2,_=>decide
   |3,_=>decide
   |n+4,h=>lia
  refine ⟨_,?_,CTgt.name (i:=1) oC h0C rfl rfl (by decide),Tsts.nil ?_⟩
  ·intro j w hw
   match j,hw with
   |2,hw=>exact hw
  ·show Ev _ _ _ _ _ _ _
   refine rwG (e1 ..) ?_
   refine Ev.bin (Ev.binN (i:=2) rfl rfl (Ev.binI (Ev.name (i:=1) rfl rfl (Bin.pow ?_ (by exact Int.natCast_nonneg (n - 1 - k)) ?_))))
   ·refine rwG (show ((n - 1 - k:Nat):Int).toNat=n - 1 - k from rfl) ?_
    refine Bin.floordiv (Ev.int (Bin.mod ⟨rfl,?_⟩ (by decide))) (by exact Ne.symm (NeZero.ne' (256^(n - 1 - k)))) (by lia)
    have e2:(beI v n)[k]?=some (v/256^(n - 1 - k) %256):=by
     unfold beI
     rw [List.getElem?_map,List.getElem?_range hkn];rfl
    refine rwG (List.take_add_one ..) ?_;refine rwG (e2 ..) ?_;refine rwG (Option.toList_some ..) ?_;refine rwG (List.map_append ..) ?_;refine rwG (fdiv_pos hp.2 ..) ?_;refine rwG (fmod_pos (by decide) ..) ?_
    rfl
   ·have:=intBits_le_64 (k:=256) (by decide) (by decide)
    have:(n - 1 - k:Nat)≤3:=by lia
    have h2:(Builtin.Int.intBits 256:Int)≤64:=by exact Int.le.intro_sub (64 - Nat.succ 8) rfl
    have h3:((n - 1 - k:Nat):Int)≤3:=by exact Nat.ToInt.of_le rfl rfl this
    have h4:(0:Int)≤((n - 1 - k:Nat):Int):=by exact Int.natCast_nonneg (n - 1 - k)
    calc (Builtin.Int.intBits 256:Int)*((n - 1 - k:Nat):Int)≤64*3:=Int.mul_le_mul h2 h3 h4 (by decide)
     _≤2^27:=by decide
 ·rintro out σ' ⟨rfl,rfl⟩
  rw [List.length_map,List.length_range,List.take_of_length_le (by simp [beI])]
  exact Args'.nil (CallP.bytesL (beI_in v n) (by simp [beI];lia) h)
 ·simp;lia
noncomputable def penStep (t c:Int):Int:=t*1000003+2*(if c<0 then -c else c)+(if c<0 then 1 else 0)
theorem law_pen_spec (hG:G.frag=KF G.w.params)(hrk:1≤C.rk){zs:List Int}(hz:zs.length≤63)(h: ∀a,Q (.ref a) (σ++ [(a,penObj ((zs.take 16).foldl penStep 0) 0)])):
  CallP G C lv σ (.ref 430) [.lsx (zs.map .int)] Q x:=by
 refine CallP.intro (ok_law_pen hG) rfl (by exact Nat.one_le_of_lt hrk) ?_ ?_
 ·exact len1 fun _=>rfl
 intro g L'
 refine Ex.cons (Ex.assignL 1 rfl (Ev.int ?_))
 have hcut:cut (zs.map AVal.int) none (some 16)=(zs.take 16).map AVal.int:=by
  unfold cut
  have e:clipAt (zs.map AVal.int).length 16=min 16 (zs.map AVal.int).length:=KBc.clip_lit _ 16
  rw [Option.elim_none,Option.elim_some,e,List.drop_zero,Nat.sub_zero,List.map_take,kmk_take_min]
 refine Ex.cons (Ex.for ((zs.take 16).map .int) (fun k lv σ'=>σ'=σ∧ ∃t,lv= [some (.lsx (zs.map .int)),some (.int (((zs.take 16).take k).foldl penStep 0)),t,none]) ?_ ?_ ?_)
 ·refine Ev.sliceX (Ev.name (i:=0) rfl rfl ⟨_,rfl,by simp;lia,EvP.none (EvP.int ?_)⟩)
  rw [hcut]
  exact ⟨.lst _,rfl,none,rfl⟩
 ·rintro k v lv σ' hk ⟨rfl,t,rfl⟩
  rw [List.getElem?_map] at hk
  cases hc:(zs.take 16)[k]? with
  |none=>rw [hc] at hk;cases hk
  |some c=>
  rw [hc] at hk
  cases hk
  refine Sto.nameL 2 rfl ?_
  refine Ex.cons (Ex.assignL 1 rfl ?_)
  refine Ev.bin (Ev.bin (Ev.binNI (i:=1) rfl rfl (Bin.mulR ?_ (by decide) (by decide))))
  refine Ev.binI (Ev.callB (ns_abs hG) rfl Keeps.builtin (Args'.name (i:=2) rfl rfl (Args'.nil (CallP.abs (Bin.mulL (Bin.add ?_) (by decide) (by decide))))))
  refine Ev.ifexp (Tst.cmpN (i:=2) rfl rfl (Ev.int (Cmp.lt ?_)))
  have fin: ∀d:Int,d=(if c<0 then 1 else 0)→Ex G ((D_law_pen G).cx C g L') [some (.lsx (zs.map .int)),some (.int (((zs.take 16).take k).foldl penStep 0*1000003+2*(if c<0 then -c else c)+d)),some (.int c),none] σ' (execs [] ((D_law_pen G).cx C g L').env) (fun lv' s'=>s'=σ'∧ ∃t,lv'= [some (.lsx (zs.map .int)),some (.int (((zs.take 16).take (k+1)).foldl penStep 0)),t,none]) (fun v σ''=>Q v σ'') x:=fun d hd=>by
   refine Ex.nil ⟨rfl,some (.int c),?_⟩
   rw [List.take_add_one (i:=k),hc,Option.toList_some,List.foldl_append,List.foldl_cons,List.foldl_nil,hd]
   rfl
  by_cases hneg:c<0
  ·refine rwG (decide_eq_true hneg ..) ?_;refine rwG (if_pos rfl ..) ?_
   exact Ev.int (Bin.add (fin 1 (by rw [if_pos hneg])))
  ·refine rwG (decide_eq_false hneg ..) ?_;refine rwG (if_neg (by decide) ..) ?_
   exact Ev.int (Bin.add (fin 0 (by rw [if_neg hneg])))
 ·rintro lv σ' ⟨rfl,t,rfl⟩
  refine Ex.cons (Ex.ret ?_)
  refine Ev.listOwn (Args'.name (i:=1) rfl rfl (Args'.int (Args'.nil ⟨by simp,fun a=>?_⟩)))
  have:=h a
  refine rwG (List.length_map ..) ?_;refine rwG (List.take_length ..) ?_
  exact this
end
section
variable {G:Gl}{C:Cx}{lv:List (Option AVal)}{σ:Own}{x:Prop}{Q:AVal→Own→Prop}
theorem directory_size_spec (hG:G.frag=KF G.w.params)(hrk:1≤C.rk){n:Int}(h:Q (.int (12+16*n)) σ):CallP G C lv σ (.ref 319) [.int n] Q x:=by
 refine CallP.intro (ok_directory_size hG) rfl (by omega) ?_ ?_
 ·exact len1 fun _=>rfl
 intro g L'
 refine Ex.cons (Ex.ret (Ev.bin (Ev.globI (ns_HEADER_SIZE hG) (Ev.bin (Ev.globI (ns_RECORD_SIZE hG) (Ev.name (i:=0) rfl rfl (Bin.mulL (Bin.add ?_) (by decide) (by decide))))))))
 exact h
theorem is_collection_spec (hG:G.frag=KF G.w.params)(hrk:4≤C.rk){d:List UInt8}(hd:d.length≤16777216)(h:Q (.bool (decide (12≤d.length)&&numOf (cut d (some 0) (some 4))==1953784678)) σ):CallP G C lv σ (.ref 355) [.bytes d] Q x:=by
 refine CallP.intro (ok_is_collection hG) rfl (by omega) ?_ ?_
 ·exact len1 fun _=>rfl
 intro g L'
 refine Ex.cons (Ex.ret (Ev.and ?_))
 refine Ev.cmp (Ev.callB (ns_len hG) rfl Keeps.builtin (Args'.name (i:=0) rfl rfl (Args'.nil (CallP.lenB ?_ (by omega)))))
 refine Ev.globI (ns_HEADER_SIZE hG) (Cmp.ge ⟨_,rfl,?_⟩)
 by_cases hl:12≤d.length
 ·rw [decide_eq_true (by omega),if_pos rfl]
  refine Ev.cmp (Ev.callG (ns_u32_at hG) (.fk hG rfl) (Args'.name (i:=0) rfl rfl (Args'.int (Args'.nil ?_))))
  refine u32_at_spec hG (show 3≤C.rk - 1 by omega) (by decide) (by omega) hd ?_
  refine Ev.globI (ns_COLLECTION hG) (Cmp.eq ?_)
  rw [decide_eq_true hl,Bool.true_and] at h
  exact h
 ·rw [decide_eq_false (by omega),if_neg (by decide)]
  rw [decide_eq_false hl,Bool.false_and] at h
  exact h
theorem has_adjustment_spec (hG:G.frag=KF G.w.params)(hrk:1≤C.rk){y:Str}{d:List UInt8}(hd:d.length≤16777216)(h:Q (.bool (y==("head":Str)&&decide (12≤d.length))) σ):CallP G C lv σ (.ref 369) [.str y,.bytes d] Q x:=by
 refine CallP.intro (ok_has_adjustment hG) rfl (by omega) ?_ ?_
 ·exact len2 fun _ _=>rfl
 intro g L'
 refine Ex.cons (Ex.ret (Ev.and ?_))
 refine Ev.cmp (Ev.name (i:=0) rfl rfl (Ev.str (Cmp.eqS ⟨_,rfl,?_⟩)))
 cases hy:(y==("head":Str))
 ·rw [if_neg (by decide)]
  rw [hy,Bool.false_and] at h
  exact h
 ·rw [if_pos rfl]
  refine Ev.cmp (Ev.callB (ns_len hG) rfl Keeps.builtin (Args'.name (i:=1) rfl rfl (Args'.nil (CallP.lenB ?_ (by omega)))))
  refine Ev.bin (Ev.globI (ns_ADJUSTMENT hG) (Ev.int (Bin.add (Cmp.ge ?_))))
  rw [hy,Bool.true_and] at h
  have e:decide ((8:Int)+4≤(d.length:Int))=decide (12≤d.length):=decide_eq_decide.mpr (by omega)
  rw [e]
  exact h
noncomputable def fill (d:List UInt8):List UInt8:=d++List.replicate ((4 - d.length %4) %4) 0
theorem fill_mod (d:List UInt8):(-(d.length:Int)) %4=(((4 - d.length %4) %4:Nat):Int):=by
 have key: ∀r:Nat,r<4→((0:Int) - (r:Int)) %4=(((4 - r) %4:Nat):Int):=by decide
 rw [←Int.zero_sub,Int.sub_emod]
 exact key _ (Nat.mod_lt _ (by decide))
theorem to_fours_spec (hG:G.frag=KF G.w.params)(hrk:1≤C.rk){d:List UInt8}(hd:d.length≤16000000)(h:Q (.bytes (fill d)) σ):CallP G C lv σ (.ref 397) [.bytes d] Q x:=by
 refine CallP.intro (ok_to_fours hG) rfl (by omega) ?_ ?_
 ·exact len1 fun _=>rfl
 intro g L'
 refine Ex.cons (Ex.ret (Ev.binN (i:=0) rfl rfl (Ev.callB (ns_bytes hG) rfl Keeps.type ?_)))
 refine Args'.cons (Ev.bin (Ev.neg (Ev.callB (ns_len hG) rfl Keeps.builtin (Args'.name (i:=0) rfl rfl (Args'.nil (CallP.lenB ⟨_,rfl,?_⟩ (by omega)))))))
 refine Ev.int (Bin.mod (Args'.nil ?_) (by decide))
 rw [fmod_pos (by decide),fill_mod]
 refine CallP.bytesI (by omega) (by omega) (Bin.addB h ?_)
 simp
 omega
end
section
variable {G:Gl}{C:Cx}{lv:List (Option AVal)}{σ:Own}{x:Prop}{Q:AVal→Own→Prop}
noncomputable def adj (y:Str)(d:List UInt8):Bool:=y==("head":Str)&&decide (12≤d.length)
noncomputable def plainT (y:Str)(d:List UInt8):List UInt8:=if adj y d then cut d none (some 8)++List.replicate 4 0++cut d (some 12) none else d
theorem cut_length_le {α:Type}(d:List α)(lo hi:Option Int):(cut d lo hi).length≤d.length:=by
 exact ((List.take_sublist ..).trans (List.drop_sublist ..)).length_le
theorem plainT_length (y:Str)(d:List UInt8):(plainT y d).length≤2*d.length+4:=by
 unfold plainT
 split
 ·have h1:=cut_length_le d none (some 8)
  have h2:=cut_length_le d (some 12) none
  simp only [List.length_append,List.length_replicate]
  lia
 ·lia
theorem unadjusted_spec (hG:G.frag=KF G.w.params)(hrk:2≤C.rk){y:Str}{d:List UInt8}(hd:d.length≤5000000)(h:Q (.bytes (plainT y d)) σ):CallP G C lv σ (.ref 376) [.str y,.bytes d] Q x:=by
 refine CallP.intro (ok_unadjusted hG) rfl (by lia) ?_ ?_
 ·exact len2 fun _ _=>rfl
 intro g L'
 refine Ex.cons (Ex.ite (Tst.not (Tst.val (Ev.callG (ns_has_adjustment hG) (.fk hG rfl) ?_))))
 refine Args'.name (i:=0) rfl rfl (Args'.name (i:=1) rfl rfl (Args'.nil ?_))
 refine has_adjustment_spec hG (show 1≤C.rk - 1 by lia) (by lia) ⟨_,rfl,?_⟩
 show if (!adj y d)=true then _ else _
 unfold plainT at h
 cases ha:adj y d
 ·rw [ha,if_neg (by decide)] at h
  refine rwG (if_pos (by decide) ..) ?_
  exact Ex.cons (Ex.ret (Ev.name (i:=1) rfl rfl h))
 ·rw [ha,if_pos rfl] at h
  refine rwG (if_neg (by decide) ..) ?_
  refine Ex.nil (Ex.cons (Ex.ret (Ev.bin (Ev.bin ?_))))
  have h1:=cut_length_le d none (some 8)
  have h2:=cut_length_le d (some (8+4)) none
  refine Ev.sliceB (Ev.name (i:=1) rfl rfl ⟨d,rfl,by lia,EvP.none (EvP.some (Ev.globI (ns_ADJUSTMENT hG) ⟨_,rfl,?_⟩))⟩)
  refine Ev.callB (ns_bytes hG) rfl Keeps.type (Args'.int (Args'.nil (CallP.bytesI (by decide) (by decide) (Bin.addB ?_ (by simp;lia)))))
  refine Ev.sliceB (Ev.name (i:=1) rfl rfl ⟨d,rfl,by lia,EvP.some (Ev.bin (Ev.globI (ns_ADJUSTMENT hG) (Ev.int (Bin.add ⟨_,rfl,EvP.none (Bin.addB h ?_)⟩))))⟩)
  simp only [List.length_append,List.length_replicate]
  lia
noncomputable def words (d:List UInt8):Nat→Int
 |0=>0
 |n+1=>words d n+numOf (cut d (some (0+(n:Nat)*4)) (some (0+(n:Nat)*4+4)))
noncomputable def sumT (d:List UInt8):Int:=words (fill d) ((fill d).length/4) %4294967296
theorem fill_length (d:List UInt8):(fill d).length=(d.length+3)/4*4:=by
 have key: ∀r:Nat,r<4→r+(4 - r) %4=(r+3)/4*4:=by decide
 have k:=key _ (Nat.mod_lt d.length (show 0<4 by decide))
 have e:=Nat.div_add_mod d.length 4
 unfold fill
 rw [List.length_append,List.length_replicate,show d.length+3=4*(d.length/4)+(d.length %4+3) by rw [←Nat.add_assoc,e],Nat.mul_add_div (by decide),Nat.add_mul,←k,Nat.mul_comm _ 4,←Nat.add_assoc,e]
theorem checksum_spec (hG:G.frag=KF G.w.params)(hrk:3≤C.rk){d:List UInt8}(hd:d.length≤16000000)(h:Q (.int (sumT d)) σ):CallP G C lv σ (.ref 283) [.bytes d] Q x:=by
 refine CallP.intro (ok_checksum hG) rfl (by lia) ?_ ?_
 ·exact len1 fun _=>rfl
 intro g L'
 refine Ex.cons (Ex.assignL 1 rfl (Ev.binN (i:=0) rfl rfl (Ev.callB (ns_bytes hG) rfl Keeps.type ?_)))
 refine Args'.cons (Ev.bin (Ev.neg (Ev.callB (ns_len hG) rfl Keeps.builtin (Args'.name (i:=0) rfl rfl (Args'.nil (CallP.lenB ⟨_,rfl,?_⟩ (by lia)))))))
 refine Ev.int (Bin.mod (Args'.nil ?_) (by decide))
 refine rwG (fmod_pos (by decide) ..) ?_;refine rwG (fill_mod ..) ?_
 refine CallP.bytesI (by lia) (by lia) (Bin.addB ?_ (by simp;lia))
 refine rwG (show (((4 - d.length %4) %4:Nat):Int).toNat=(4 - d.length %4) %4 from rfl) ?_
 show Ex _ _ ([some (.bytes d),some (.bytes (fill d)),none,none,none,none,none,none]) _ _ _ _ _
 have hfl:=fill_length d
 unfold sumT at h
 revert h hfl
 refine gen (fill d) ?_
 intro f h hfl
 refine Ex.cons (Ex.assignL 2 rfl (Ev.int ?_))
 refine Ex.cons (Ex.for ((List.range (f.length/4)).map fun (i:Nat)=> .int (0+(i:Nat)*4)) (fun k lv σ'=>σ'=σ∧ ∃t,lv= [some (.bytes d),some (.bytes f),some (.int (words f k)),t,none,none,none,none]) ?_ ?_ ?_)
 ·refine Ev.callB (ns_range hG) rfl Keeps.type ?_
  refine Args'.int (Args'.cons (Ev.callB (ns_len hG) rfl Keeps.builtin (Args'.name (i:=1) rfl rfl (Args'.nil (CallP.lenB ?_ (by lia))))))
  refine Args'.int (Args'.nil ?_)
  refine CallP.range3 (f.length/4) ⟨.rng _ _ _,rfl,none,rfl⟩ ?_ (by decide) (by decide) (by lia) (by lia) (by decide) (by decide) (by decide) (by lia)
  unfold Builtin.Range.rangeSize
  simp only [show (4:Int)>0 by decide,if_true]
  split<;>lia
 ·rintro k v lv σ' hk ⟨rfl,t,rfl⟩
  rw [List.getElem?_map] at hk
  have hkn:k<f.length/4:=by
   rcases Nat.lt_or_ge k (f.length/4) with q|q
   ·exact q
   ·rw [List.getElem?_eq_none (by simpa using q)] at hk;cases hk
  rw [List.getElem?_range hkn] at hk
  obtain rfl:AVal.int (0+(k:Nat)*4)=v:=Option.some.inj hk
  refine Sto.nameL 3 rfl ?_
  refine Ex.cons (Ex.assignL 2 rfl (Ev.binN (i:=2) rfl rfl ?_))
  refine Ev.callG (ns_number_at hG) (.fk hG rfl) ?_
  refine Args'.name (i:=1) rfl rfl (Args'.name (i:=3) rfl rfl (Args'.int (Args'.nil ?_)))
  refine number_at_spec hG (show 2≤C.rk - 1 by lia) (by lia) (by decide) (by decide) (by lia) (by lia) (Bin.add ?_)
  exact Ex.nil ⟨rfl,some (.int (0+(k:Nat)*4)),rfl⟩
 ·rintro lv σ' ⟨rfl,t,rfl⟩
  refine Ex.cons (Ex.ret (Ev.binNI (i:=2) rfl rfl (Bin.and ?_)))
  refine rwG (bitAnd_m32 ..) ?_;refine rwG (List.length_map ..) ?_;refine rwG (List.length_range ..) ?_
  exact h
theorem table_sum_spec (hG:G.frag=KF G.w.params)(hrk:4≤C.rk){y:Str}{d:List UInt8}(hd:d.length≤5000000)(h:Q (.int (sumT (plainT y d))) σ):CallP G C lv σ (.ref 383) [.str y,.bytes d] Q x:=by
 refine CallP.intro (ok_table_sum hG) rfl (by lia) ?_ ?_
 ·exact len2 fun _ _=>rfl
 intro g L'
 refine Ex.cons (Ex.ret (Ev.callG (ns_checksum hG) (.fk hG rfl) (Args'.cons ?_)))
 refine Ev.callG (ns_unadjusted hG) (.fk hG rfl) ?_
 refine Args'.name (i:=0) rfl rfl (Args'.name (i:=1) rfl rfl (Args'.nil ?_))
 have hl:=plainT_length y d
 refine unadjusted_spec hG (show 2≤C.rk - 1 by lia) hd (Args'.nil ?_)
 exact checksum_spec hG (show 3≤C.rk - 1 by lia) (by lia) h
end
section
variable {G:Gl}{C:Cx}{lv:List (Option AVal)}{σ:Own}{x:Prop}{Q:AVal→Own→Prop}
theorem search_numbers_spec (hG:G.frag=KF G.w.params)(hrk:1≤C.rk){n:Nat}(h1:1≤n)(h3:n≤3)(h:Q (.tup [.int (if n=1 then 16 else 32),.int (if n=1 then 0 else 1),.int (16*n - (if n=1 then 16 else 32))]) σ):
  CallP G C lv σ (.ref 390) [.int n] Q x:=by
 refine CallP.intro (ok_search_numbers hG) rfl (by exact Nat.one_le_of_lt hrk) ?_ ?_
 ·exact len1 fun _=>rfl
 intro g L'
 have body: ∀(p:Int) (s:Int),Ex G ((D_search_numbers G).cx C g L') [some (.int n),some (.int p),some (.int s),none] σ (execs [] ((D_search_numbers G).cx C g L').env) (fun lv' σ'=>lv'= [some (.int n),some (.int p),some (.int s),none]∧σ'=σ) Q x:=fun p s=>Ex.nil ⟨rfl,rfl⟩
 first
  |refine Ex.cons (Ex.assignT (Ev.tuple (Args'.int (Args'.int (Args'.nil ⟨by simp,?_⟩)))))
   refine Sto.tuple rfl (Stos.name 1 rfl (Stos.name 2 rfl (Stos.nil ?_)))
  |skip
 refine Ex.cons (Ex.while 2 (fun k lv' σ'=>σ'=σ∧((k=2∧lv'= [some (.int n),some (.int 1),some (.int 0),none])∨(k=1∧2≤n∧lv'= [some (.int n),some (.int 2),some (.int 1),none]))) ⟨rfl,.inl ⟨rfl,rfl⟩⟩ ?_)
 rintro k lv' σ' ⟨rfl,⟨rfl,rfl⟩|⟨rfl,h2,rfl⟩⟩
 ·refine Tst.cmp (Ev.binI (Ev.name (i:=1) rfl rfl (Bin.mulL (Ev.name (i:=0) rfl rfl (Cmp.le ?_)) (by decide) (by decide))))
  by_cases h2:2≤n
  ·rw [decide_eq_true (by exact Int.toNat_le.mp h2),if_pos rfl]
   refine Ex.cons (Ex.assignL 1 rfl (Ev.binI (Ev.name (i:=1) rfl rfl (Bin.mulL ?_ (by decide) (by decide)))))
   refine Ex.cons (Ex.assignL 2 rfl (Ev.binNI (i:=2) rfl rfl (Bin.add ?_)))
   exact Ex.nil ⟨1,by decide,rfl,.inr ⟨rfl,h2,rfl⟩⟩
  ·have e:n=1:=by lia
   subst e
   rw [decide_eq_false (by decide),if_neg (by decide)]
   refine Ex.cons (Ex.ret (Ev.tuple (Args'.cons (Ev.bin (Ev.globI (ns_RECORD_SIZE hG) (Ev.name (i:=1) rfl rfl (Bin.mulL ?_ (by decide) (by decide))))))))
   refine Args'.name (i:=2) rfl rfl (Args'.cons (Ev.bin (Ev.globI (ns_RECORD_SIZE hG) (Ev.binNN (i:=0) (j:=1) rfl rfl rfl rfl (Bin.sub (Bin.mulL (Args'.nil ⟨by simp,?_⟩) (by decide) (by decide)))))))
   exact h
 ·refine Tst.cmp (Ev.binI (Ev.name (i:=1) rfl rfl (Bin.mulL (Ev.name (i:=0) rfl rfl (Cmp.le ?_)) (by decide) (by decide))))
  rw [decide_eq_false (by lia),if_neg (by decide)]
  refine Ex.cons (Ex.ret (Ev.tuple (Args'.cons (Ev.bin (Ev.globI (ns_RECORD_SIZE hG) (Ev.name (i:=1) rfl rfl (Bin.mulL ?_ (by decide) (by decide))))))))
  refine Args'.name (i:=2) rfl rfl (Args'.cons (Ev.bin (Ev.globI (ns_RECORD_SIZE hG) (Ev.binNN (i:=0) (j:=1) rfl rfl rfl rfl (Bin.sub (Bin.mulL (Args'.nil ⟨by simp,?_⟩) (by decide) (by decide)))))))
  have e1: ¬n=1:=by exact Nat.ne_of_lt' h2
  rw [if_neg e1,if_neg e1] at h
  rw [show (16:Int)*((n:Int) - 2)=16*n - 32 by lia]
  exact h
end
section
variable {G:Gl}{C:Cx}{lv:List (Option AVal)}{σ:Own}{x:Prop}{Q:AVal→Own→Prop}
theorem record_init (hG:G.frag=KF G.w.params)(hrk:1≤C.rk){a:Addr}{j:Nat}{v1 v2 v3 v4 v5:AVal}(hj:σ[j]?=some (a,.inst clsRecord []))(h:Q .none (σ.set j (a,.inst clsRecord (recNames.zip [v1,v2,v3,v4,v5])))):
  CodeC G C lv σ 298 [.ref a,v1,v2,v3,v4,v5] Q x:=by
 refine CodeP.intro (ok_Record__init_ hG) rfl hrk ?_ ?_
 ·exact len6 fun _ _ _ _ _ _=>rfl
 intro g L'
 refine Ex.cons (Ex.setAttr (Ev.name (i:=1) rfl rfl (Ev.name (i:=0) rfl rfl ⟨a,clsRecord,_,j,rfl,hj,so_Record_tag hG,Nat.le_of_ble_eq_true rfl,?_⟩)))
 refine Ex.cons (Ex.setAttr (Ev.name (i:=2) rfl rfl (Ev.name (i:=0) rfl rfl ⟨a,clsRecord,_,j,rfl,get_set_own hj,so_Record_total hG,Nat.le_of_ble_eq_true rfl,?_⟩)))
 rw [set_set_own]
 refine Ex.cons (Ex.setAttr (Ev.name (i:=3) rfl rfl (Ev.name (i:=0) rfl rfl ⟨a,clsRecord,_,j,rfl,get_set_own hj,so_Record_begin hG,Nat.le_of_ble_eq_true rfl,?_⟩)))
 rw [set_set_own]
 refine Ex.cons (Ex.setAttr (Ev.name (i:=4) rfl rfl (Ev.name (i:=0) rfl rfl ⟨a,clsRecord,_,j,rfl,get_set_own hj,so_Record_length hG,Nat.le_of_ble_eq_true rfl,?_⟩)))
 rw [set_set_own]
 refine Ex.cons (Ex.setAttr (Ev.name (i:=5) rfl rfl (Ev.name (i:=0) rfl rfl ⟨a,clsRecord,_,j,rfl,get_set_own hj,so_Record_where hG,Nat.le_of_ble_eq_true rfl,?_⟩)))
 rw [set_set_own]
 exact Ex.nil h
theorem CallP.freeze {f:Value}{vs:List AVal}(h:CallP G C lv σ f vs (fun v σ₁=>Q v σ₁∨ ∃a j o w,v= .ref a∧σ₁[j]?=some (a,o)∧Fz o w∧Q w (σ₁.eraseIdx j)) x):CallP G C lv σ f vs Q x:=fun K J m own s cvs S I O r=>by
 refine wpAny_mono (h K J m own s cvs S I O r) (fun cv s' ⟨K',own',v,σ',h',tk',e,hk,I',O',r,q⟩=>?_) fun _ _ f=>f
 rcases q with q|⟨a,j,o,w,rfl,hj,f,q⟩
 ·exact ⟨K',own',v,σ',h',tk',e,hk,I',O',r,q⟩
 ·cases r
  obtain ⟨l1,l,l2,rfl,ro,O2⟩:=O'.erase hj
  exact ⟨_,_,w,_,h',tk',e,fun a o z=> .inl (hk _ _ z),I'.freeze,O2.mono fun _ _ z=> .inl z,f.rel ro,q⟩
theorem record_new (hG:G.frag=KF G.w.params)(hrk:2≤C.rk){v1 v2 v3 v4 v5:AVal}(h:Q (.rcd [v1,v2,v3,v4,v5]) σ):CallP G C lv σ (.ref 308) [v1,v2,v3,v4,v5] Q x:=by
 refine CallP.freeze (CallP.make (mk_Record hG) (by exact Nat.one_le_of_lt hrk) fun a A=>?_)
 refine record_init hG (show 1≤C.rk - 1 by exact Nat.le_sub_one_of_lt hrk) (j:=σ.length) (by simp) ⟨rfl,.inr ⟨a,σ.length,.inst clsRecord (recNames.zip [v1,v2,v3,v4,v5]),.rcd [v1,v2,v3,v4,v5],rfl,by simp,.rcd _ rfl,?_⟩⟩
 have e:List.eraseIdx (List.set (σ++ [(a,OObj.inst clsRecord [])]) σ.length (a,OObj.inst clsRecord (recNames.zip [v1,v2,v3,v4,v5]))) σ.length=σ:=by
  rw [List.set_append_right _ _ (Nat.le_refl _),List.eraseIdx_append_of_length_le (Nat.le_refl _)]
  simp
 rw [e]
 exact h
theorem record_end (hG:G.frag=KF G.w.params)(hrk:1≤C.rk){v1 v2 v5:AVal}{b l:Int}(h:Q (.int (b+l)) σ):CallP G C lv σ (.ref 305) [.rcd [v1,v2,.int b,.int l,v5]] Q x:=by
 refine CallP.intro (ok_Record_end hG) rfl (by exact Nat.one_le_of_lt hrk) ?_ ?_
 ·exact len1 fun _=>rfl
 intro g L'
 refine Ex.cons (Ex.ret (Ev.bin (Ev.attrN (i:=0) rfl rfl (Attr.rcd (fo_Record_begin hG) rfl ?_))))
 refine Ev.attrN (i:=0) rfl rfl (Attr.rcd (fo_Record_length hG) rfl (Bin.add h))
end
section
variable {G:Gl}{C:Cx}{lv:List (Option AVal)}{σ:Own}{x:Prop}{Q:AVal→Own→Prop}
noncomputable def z4 :List UInt8:=List.replicate 4 0
noncomputable def loneT (first:Int):List UInt8:=be 65536 4++be 1 2++be 16 2++z4++ [99,109,97,112]++z4++be (first+28) 4++z4
noncomputable def loneAll (many:Nat):List UInt8:= [116,116,99,102]++be 65536 4++be many 4++(List.replicate many (be (12+4*many) 4)).flatten++loneT (12+4*many)
theorem loneT_length (f:Int):(loneT f).length=28:=by simp [loneT,be_length,z4]
set_option maxHeartbeats 2000000 in
theorem law_lone_spec (hG:G.frag=KF G.w.params)(hrk:2≤C.rk){many:Nat}(h1:2≤many)(h2:many≤100)(h:Q (.bytes (loneAll many)) σ):CallP G C lv σ (.ref 471) [.int many] Q x:=by
 refine CallP.intro (ok_law_lone hG) rfl (by exact Nat.one_le_of_lt hrk) ?_ ?_
 ·exact len1 fun _=>rfl
 intro g L'
 have hr:1≤C.rk - 1:=by exact Nat.le_sub_one_of_lt hrk
 refine Ex.cons (Ex.assignL 1 rfl (Ev.binI (Ev.binI (Ev.name (i:=0) rfl rfl (Bin.mulL (Bin.add ?_) (by decide) (by decide))))))
 refine Ex.cons (Ex.assignL 2 rfl ?_)
 refine Ev.bin (Ev.bin (Ev.bin (Ev.bin (Ev.bin (Ev.bin (Ev.bin ?_))))))
 refine Ev.callG (ns_law_octets hG) (.fk hG rfl) (Args'.int (Args'.int (Args'.nil ?_)))
 refine law_octets_spec hG hr (n:=4) (.inr rfl) ?_
 refine Ev.callG (ns_law_octets hG) (.fk hG rfl) (Args'.int (Args'.int (Args'.nil ?_)))
 refine law_octets_spec hG hr (n:=2) (.inl rfl) (Bin.addB ?_ (by simp [be_length]))
 refine Ev.callG (ns_law_octets hG) (.fk hG rfl) (Args'.int (Args'.int (Args'.nil ?_)))
 refine law_octets_spec hG hr (n:=2) (.inl rfl) (Bin.addB ?_ (by simp [be_length]))
 refine Ev.callB (ns_bytes hG) rfl Keeps.type (Args'.int (Args'.nil (CallP.bytesI (by decide) (by decide) (Bin.addB ?_ (by simp [be_length])))))
 refine Ev.bytes (Bin.addB ?_ (by simp [be_length]))
 refine Ev.callB (ns_bytes hG) rfl Keeps.type (Args'.int (Args'.nil (CallP.bytesI (by decide) (by decide) (Bin.addB ?_ (by simp [be_length])))))
 refine Ev.callG (ns_law_octets hG) (.fk hG rfl) (Args'.cons (Ev.binNI (i:=1) rfl rfl (Bin.add (Args'.int (Args'.nil ?_)))))
 refine law_octets_spec hG hr (n:=4) (.inr rfl) (Bin.addB ?_ (by simp [be_length]))
 refine Ev.callB (ns_bytes hG) rfl Keeps.type (Args'.int (Args'.nil (CallP.bytesI (by decide) (by decide) (Bin.addB ?_ (by simp [be_length])))))
 refine Ex.cons (Ex.ret (Ev.bin (Ev.bin (Ev.bin (Ev.bin (Ev.bytes ?_))))))
 refine Ev.callG (ns_law_octets hG) (.fk hG rfl) (Args'.int (Args'.int (Args'.nil ?_)))
 refine law_octets_spec hG hr (n:=4) (.inr rfl) (Bin.addB ?_ (by simp [be_length]))
 refine Ev.callG (ns_law_octets hG) (.fk hG rfl) (Args'.name (i:=0) rfl rfl (Args'.int (Args'.nil ?_)))
 refine law_octets_spec hG hr (n:=4) (.inr rfl) (Bin.addB ?_ (by simp [be_length]))
 refine Ev.bin (Ev.callG (ns_law_octets hG) (.fk hG rfl) (Args'.name (i:=1) rfl rfl (Args'.int (Args'.nil ?_))))
 refine law_octets_spec hG hr (n:=4) (.inr rfl) ?_
 have hfl:((List.replicate many (be (12+4*(many:Int)) 4)).flatten).length=many*4:=by simp [be_length]
 refine Ev.name (i:=0) rfl rfl (Bin.mulB ?_ (by intro e;have:=congrArg List.length e;rw [be_length] at this;cases this) (by exact Int.toNat_le.mp h1) (by lia) (by rw [be_length];lia))
 refine rwG (show ((many:Nat):Int).toNat=many from rfl) ?_
 refine Bin.addB ?_ (by rw [hfl];simp [be_length];lia)
 refine Ev.name (i:=2) rfl rfl (Bin.addB ?_ ?_)
 ·unfold loneAll loneT z4 at h
  exact h
 ·simp only [List.length_append,hfl,be_length,List.length_cons,List.length_nil,List.length_replicate]
  show _+(_+_)≤_
  simp [be_length]
  lia
end
section
variable {G:Gl}{C:Cx}{lv:List (Option AVal)}{σ:Own}{Q:AVal→Own→Prop}{x:Prop}
theorem VRels.strs {P:Params}{K:Kept}{ys:List Str}{cvs:List Value}(h:VRels P K (ys.map .str) cvs):StrsAre cvs ys:=by
 induction ys generalizing cvs with
 |nil=>exact h.nilE .nil
 |cons y r ih=>exact h.consE fun _ _ a b=>a.strE fun _=> .cons _ _ (ih b)
theorem Meth.str {y:Str}{name:Str}{id:String}(slot:Slot "str" name id)(ty:typeOf (.builtin id)=pure (.type "method_descriptor")):Meth G C lv σ (.str y) name (.builtin id):=by
 intro K J m own s ca pl Q E S I O r h
 revert h
 refine r.strE fun _ h=>?_
 exact getMethod_builtin (typeIs_str _ _ _) F.plainAttrs_str slot ty (fun a e=>nomatch e) h
theorem Meth.join {y:Str}:Meth G C lv σ (.str y) "join" (.builtin "str.join"):= .str F.slot_str_join F.type_str_join
theorem Meth.encode {y:Str}:Meth G C lv σ (.str y) "encode" (.builtin "str.encode"):= .str F.slot_str_encode F.type_str_encode
theorem CallP.join {y:Str}{ys:List Str}(hz:(ys.map (·.length)).sum+ys.length*y.length≤16777216)(h:Q (.str (Txt.join y ys)) σ):CallP G C lv σ (.builtin "str.join") [.str y,.lst (ys.map .str)] Q x:=by
 intro K J m own s cvs S I O r
 refine r.twoE fun _ _ r1 r2=>?_
 refine r1.strE fun t=>?_
 refine r2.lstE fun _ _ _ hk hv=>?_
 exact join_list (seq_list (I.k _ _ hk)) hv.strs hz fun t' k=>⟨K,own,_,σ,s.heap,k,rfl,fun _ _ e=>e,I,O,.str _ t',h⟩
theorem enc_tree (y:Str)(b:Array UInt8)(t u:Tok)(e:Builtin.«str.encode» ⟨[.str y t,.str "ascii" u],[]⟩=(do ret (←mkBytes b)))(hz:b.size≤1000){prog:Program}{w:World}{A:Around}{E:Value→Shared→Prop}{s:Shared}{Q:Value→Shared→Prop}
  (h: ∀k,Q (.bytes b s.toks) {s with toks:=k}):wpAny (model prog w) A (call (.builtin "str.encode") [.str y t,.str "ascii" u]) Q E s:=by
 refine wpAny_call_entry F.slot_str_encode (typeIs_str _ _ _) F.entry_str_encode ?_ (F.args_str_encode_2 _ _)
 rw [e]
 refine wpAny_bind (wpAny_mkBytes ?_ (by rw [sizeLine_eq];lia))
 exact wpAny_pure ⟨_,rfl,h _⟩
theorem enc_cmap (t u:Tok):Builtin.«str.encode» ⟨[.str "cmap" t,.str "ascii" u],[]⟩=(do ret (←mkBytes #[99,109,97,112])):=by first|rfl|kernel_rfl
theorem enc_head (t u:Tok):Builtin.«str.encode» ⟨[.str "head" t,.str "ascii" u],[]⟩=(do ret (←mkBytes #[104,101,97,100])):=by first|rfl|kernel_rfl
theorem enc_maxp (t u:Tok):Builtin.«str.encode» ⟨[.str "maxp" t,.str "ascii" u],[]⟩=(do ret (←mkBytes #[109,97,120,112])):=by first|rfl|kernel_rfl
inductive IsTag :Str→Prop where
 |cmap:IsTag "cmap"
 |head:IsTag "head"
 |maxp:IsTag "maxp"
noncomputable def tagB (y:Str):List UInt8:=y.cps.toList.map fun c=>c.toUInt8
theorem CallP.encode {y:Str}(hy:IsTag y)(h:Q (.bytes (tagB y)) σ):CallP G C lv σ (.builtin "str.encode") [.str y,.str "ascii"] Q x:=by
 intro K J m own s cvs S I O r
 refine r.twoE fun _ _ r1 r2=>?_
 refine r1.strE fun t=>?_
 refine r2.strE fun u=>?_
 cases hy
 ·exact enc_tree _ _ t u (enc_cmap t u) (by decide) fun k=>⟨K,own,_,σ,s.heap,k,rfl,fun _ _ e=>e,I,O,.bytes [99,109,97,112] _,h⟩
 ·exact enc_tree _ _ t u (enc_head t u) (by decide) fun k=>⟨K,own,_,σ,s.heap,k,rfl,fun _ _ e=>e,I,O,.bytes [104,101,97,100] _,h⟩
 ·exact enc_tree _ _ t u (enc_maxp t u) (by decide) fun k=>⟨K,own,_,σ,s.heap,k,rfl,fun _ _ e=>e,I,O,.bytes [109,97,120,112] _,h⟩
end
noncomputable def runO {α:Type}(n:Nat)(lt:Nat→Nat→Bool):KasT α→Option α
 | .ret a=>some a
 | .ask i j k=>if i<n∧j<n then runO n lt (k (lt i j)) else none
theorem kasWp_run {α:Type}{n:Nat}{lt:Nat→Nat→Bool}{cmp:Nat→Nat→(Bool→Shared→Prop)→Shared→Prop}{Q:α→Shared→Prop}{s:Shared}
  (hc: ∀i j C,i<n→j<n→C (lt i j) s→cmp i j C s): ∀(t:KasT α) (a:α),runO n lt t=some a→Q a s→t.kasWp cmp Q s
 | .ret b,a,e,q=>by
  cases e
  exact q
 | .ask i j k,a,e,q=>by
  unfold runO at e
  split at e
  ·rename_i hij
   exact hc i j _ hij.1 hij.2 (kasWp_run hc (k (lt i j)) a e q)
  ·cases e
section
variable {prog:Program}{w:World}{A:Around}{E:Value→Shared→Prop}{s:Shared}{h₀:Heap}{L:Addr}{m:Str→Option Value}{news:List (Addr×Obj)}
theorem sort_one {D:Addr}{v:Value}{n:Nat}{Q:Value→Shared→Prop}(F:Fr h₀ L s.heap m)(N:News h₀ L s.heap ((D,PySem.W.listOf #[v] n)::news))(hn: ∀p∈news,p.1≠D)
  (k: ∀h' c,Fr h₀ L h' m→News h₀ L h' ((D,PySem.W.listOf #[v] c)::news)→Q .none {s with heap:=h'}):wpAny (model prog w) A (call (.builtin "list.sort") [.ref D]) Q E s:=by
 have nz:=N _ (.head _)
 have haL:=nz.2.1
 have ha0:=nz.2.2
 have ho:=nz.1
 dsimp only at haL ha0 ho
 refine wpAny_call_entry slot_list_sort ⟨_,ho,rfl⟩ entry_list_sort ?_ (args_list_sort _)
 have s1:=Heap.SameBut.update s.heap D (Obj.mapSeq fun _=>(#[]:Array Value))
 obtain ⟨e1,ho1⟩: ∃e1,(s.heap.update D (Obj.mapSeq fun _=>(#[]:Array Value))).get? D=some (PyProof.Rows.seqObj "list" #[] e1):=⟨_,get?_update_seq ho fun _=> #[]⟩
 have F3:Fr h₀ L (((s.heap.update D (Obj.mapSeq fun _=>(#[]:Array Value))).push (PyProof.Rows.seqObj "tuple" #[v] 0)).push (PyProof.Rows.seqObj "list" #[] 0)) m:=((kas_fr F s1 haL ha0).push _).push _
 have N2:News h₀ L (((s.heap.update D (Obj.mapSeq fun _=>(#[]:Array Value))).push (PyProof.Rows.seqObj "tuple" #[v] 0)).push (PyProof.Rows.seqObj "list" #[] 0)) news:=
  (kas_news (fun p hp=>N p (.tail _ hp)) s1 hn).grown fun b x e=>Heap.get?_push_of_some _ (Heap.get?_push_of_some _ e)
 have ho3:(((s.heap.update D (Obj.mapSeq fun _=>(#[]:Array Value))).push (PyProof.Rows.seqObj "tuple" #[v] 0)).push (PyProof.Rows.seqObj "list" #[] 0)).get? D=some (PyProof.Rows.seqObj "list" #[] e1):=Heap.get?_push_of_some _ (Heap.get?_push_of_some _ ho1)
 refine rwG (list_sort_plain ..) ?_
 refine wpAny_bind (listItems_at ho rfl ?_)
 refine wpAny_bind (listUpdate_at ho rfl ?_ (by rw [sizeLine_eq];simp) (Nat.zero_le _))
 refine wpAny_bind (seqEpoch_at ho1 rfl ?_)
 refine wpAny_bind (wpAny_newTuple ?_ (by rw [sizeLine_eq];simp))
 refine wpAny_bind (wpAny_newList ?_ (Nat.zero_le _))
 refine wpAny_holding ?_
 show wpAny (model prog w) A.in1 _ _ _ {s with heap:=((s.heap.update D (Obj.mapSeq fun _=>(#[]:Array Value))).push (PyProof.Rows.seqObj "tuple" #[v] 0)).push (PyProof.Rows.seqObj "list" #[] 0)}
 generalize (((s.heap.update D (Obj.mapSeq fun _=>(#[]:Array Value))).push (PyProof.Rows.seqObj "tuple" #[v] 0)).push (PyProof.Rows.seqObj "list" #[] 0))=g at F3 N2 ho3
 refine rwG (if_pos (by simp) ..) ?_;refine rwG (if_pos (by simp) ..) ?_
 refine wpAny_bind (wpAny_pure ?_)
 refine wpAny_bind ?_
 refine wpAny_pure ?_
 dsimp only
 have hout:(Array.map (fun x=>x.snd) (arrOf (SortSt.mk' general' (#[v].zip #[v]) #[] 7 none)):Array Value)= #[v]:=by
  have e1:arrOf (SortSt.mk' general' (#[v].zip #[v]) #[] 7 none)=(#[v].zip #[v]:Array (Value×Value)):=rfl
  refine rwG (e1 ..) ?_
  simp
 refine rwG (hout ..) ?_
 refine wpAny_bind (seqEpoch_at ho3 rfl ?_)
 have s2:=Heap.SameBut.update g D (Obj.mapSeq fun _=> #[v])
 obtain ⟨c2,hc2⟩: ∃c2,(g.update D (Obj.mapSeq fun _=> #[v])).get? D=some (PyProof.Rows.seqObj "list" #[v] c2):=⟨_,get?_update_seq ho3 fun _=> #[v]⟩
 refine wpAny_bind (listUpdate_at ho3 rfl ?_ (Nat.zero_le _) (by rw [sizeLine_eq];simp))
 simp only [bne_self_eq_false,Bool.false_eq_true,if_false]
 refine wpAny_pure ⟨_,rfl,k _ c2 (kas_fr F3 s2 haL ha0) fun p hp=>?_⟩
 rcases List.mem_cons.mp hp with rfl|hp
 ·exact ⟨hc2,haL,ha0⟩
 ·exact kas_news N2 s2 hn p hp
end
noncomputable def ltS (ks:List Str)(i j:Nat):Bool:=decide ((ks.getD i "").cps.toList<(ks.getD j "").cps.toList)
noncomputable def tagSort (ks:List Str):List Str:=(["cmap","head","maxp"]:List Str).filter fun y=>ks.contains y
inductive TagRow :List Str→Prop where
 |one {y:Str}(h:IsTag y):TagRow [y]
 |two {y z:Str}(hy:IsTag y) (hz:IsTag z) (h:y≠z):TagRow [y,z]
 |three {y z u:Str}(hy:IsTag y) (hz:IsTag z) (hu:IsTag u) (h:y≠z) (h2:y≠u) (h3:z≠u):TagRow [y,z,u]
noncomputable def tagChk (ks:List Str):Bool:=match runO ks.length (ltS ks) (kas_sort ks.length) with
 |some p=>decide (p.toList.map (fun i=>ks.getD i "")=tagSort ks)&&p.toList.all fun i=>decide (i<ks.length)
 |none=>false
theorem tagRow_chk {ks:List Str}(h:TagRow ks)(h2:2≤ks.length):tagChk ks=true:=by
 cases h with
 |one h=>simp at h2
 |two hy hz h=>cases hy<;>cases hz<;>first|exact absurd rfl h|decide+kernel
 |three hy hz hu ha hb hc=>cases hy<;>cases hz<;>first|exact absurd rfl ha|(cases hu<;>first|exact absurd rfl hb|exact absurd rfl hc|decide+kernel)
theorem tagRow_sort {ks:List Str}(h:TagRow ks)(h2:2≤ks.length): ∃p,runO ks.length (ltS ks) (kas_sort ks.length)=some p∧p.toList.map (fun i=>ks.getD i "")=tagSort ks∧ ∀i∈p.toList,i<ks.length:=by
 have c:=tagRow_chk h h2
 unfold tagChk at c
 split at c
 ·rename_i p e
  rw [Bool.and_eq_true,decide_eq_true_eq,List.all_eq_true] at c
  exact ⟨p,e,c.1,fun i hi=>of_decide_eq_true (c.2 i hi)⟩
 ·cases c
theorem tagRow_sort1 {ks:List Str}(h:TagRow ks)(h2:ks.length<2):tagSort ks=ks:=by
 cases h with
 |one h=>cases h<;>decide+kernel
 |two hy hz h=>simp at h2
 |three hy hz hu h h2 h3=>simp at h2
theorem TagRow.pos {ks:List Str}(h:TagRow ks):1≤ks.length∧ks.length≤3:=by cases h<;>simp
theorem TagRow.nodup {ks:List Str}(h:TagRow ks):ks.Nodup:=by
 cases h with
 |one h=>simp
 |two hy hz h=>simp [h]
 |three hy hz hu ha hb hc=>simp [ha,hb,hc]
theorem new_list {G:Gl}{C:Cx}{lv:List (Option AVal)}{σ:Own}{K J:Kept}{m:Str→Option Value}{own:Led}{s:Shared}(S:Sit G C lv K J m)(I:Inv K J own C.L m s.heap)(O:Owns G.w.params K σ own){Q:AVal→Own→Prop}
  {B:Addr}{h':Heap}{tk c:Nat}{out:List Value}{ws:List AVal}(F':Fr C.h₀ C.L h' m) (N':News C.h₀ C.L h' ((B,PySem.W.listOf out.toArray c)::restOf C.h₀ C.L s.heap)) (hlt: ∀q∈restOf C.h₀ C.L s.heap,q.1<B)
  (r:VRels G.w.params K ws out) (h:Q (.lst ws) σ):Post G C.L m K J s Q (.ref B) {s with heap:=h',toks:=tk}:=by
 have F:=S.fr I
 have z:=N' _ (.head _)
 have nB:s.heap.get? B=none:=by
  cases q:s.heap.get? B with
  |none=>rfl
  |some o=>exact absurd (hlt (B,o) (mem_restOf.mpr ⟨q,z.2.2,z.2.1⟩)) (Nat.lt_irrefl _)
 have g:Grow C.L m s.heap h':=Grow.of_news F F' N' fun p hp=> .tail _ hp
 have I2:=I.add (o:=Internal.seqObj "list" out c) g nB z.1
 exact ⟨_,own,_,σ,h',tk,rfl,Kept.sub,I2,O.mono Kept.sub,.lst Kept.new (r.mono Kept.sub),h⟩
section
variable {G:Gl}{C:Cx}{lv:List (Option AVal)}{σ:Own}{Q:AVal→Own→Prop}{x:Prop}
theorem strs_get : ∀{vs:List Value}{ks:List Str},StrsAre vs ks→ ∀i,i<ks.length→ ∃t,vs.getD i Value.none= .str (ks.getD i "") t
 |_,_,.nil,i,h=>by simp at h
 |_,_,.cons y t r,0,h=>⟨t,rfl⟩
 |_,_,.cons y t r,i+1,h=>by
  obtain ⟨u,e⟩:=strs_get r i (by simpa using h)
  exact ⟨u,by simpa using e⟩
theorem strs_pick {P:Params}{K:Kept}{vs:List Value}{ks:List Str}(h:StrsAre vs ks): ∀(is:List Nat),(∀i∈is,i<ks.length)→VRels P K ((is.map fun i=>ks.getD i "").map .str) (is.map fun i=>vs.getD i Value.none)
 | [],_=> .nil
 |i::r,hi=>by
  obtain ⟨t,e⟩:=strs_get h i (hi i (.head _))
  have ih:=strs_pick (P:=P) (K:=K) h r fun j hj=>hi j (.tail _ hj)
  simp only [List.map_cons]
  rw [e]
  exact .cons (.str _ _) ih
theorem strs_of : ∀{vs:List Value}{ks:List Str},vs.length=ks.length→(∀(j:Nat) (v:Value),vs[j]?=some v→ ∃k,ks[j]?=some k∧ ∃t,v=Value.str k t)→StrsAre vs ks
 | [],[],_,_=> .nil
 |v::vs,k::ks,hl,h=>by
  obtain ⟨k',e,t,rfl⟩:=h 0 v rfl
  obtain rfl:k=k':=by simpa using e
  exact .cons _ t (strs_of (by simpa using hl) fun j v hv=>by simpa using h (j+1) v (by simpa using hv))
 | [],_::_,hl,_=>by simp at hl
 |_::_,[],hl,_=>by simp at hl
theorem strs_type {M:Model}{h:Heap}{vs:List Value}{ks:List Str}(hi:StrsAre vs ks): ∀v∈vs,Looks M h (typeOf v) (.type "str"):=by
 induction hi with
 |nil=>intro v hv;cases hv
 |cons y t r ih=>
  intro v hv
  rcases List.mem_cons.mp hv with rfl|hv
  ·exact Looks.of_pure rfl
  ·exact ih v hv
theorem strs_len {vs:List Value}{ks:List Str}(hi:StrsAre vs ks):vs.length=ks.length:=by
 induction hi with
 |nil=>rfl
 |cons y t r ih=>simp [ih]
theorem CallP.sortedD {kvs:List (Str×AVal)}(hrow:TagRow (kvs.map (·.1)))(h:Q (.lst ((tagSort (kvs.map (·.1))).map .str)) σ):CallP G C lv σ (.builtin "sorted") [.dS kvs] Q x:=by
 intro K J m own s cvs S I O r
 refine r.oneE fun _ r1=>?_
 refine r1.dSE fun _ _ _ hk hr hs=>?_
 have F:=S.fr I
 refine hideG fun M kM=>?_
 obtain ⟨cks,hd,p⟩:=hr.dictOf (I.k _ _ hk) hrow.nodup
 have hkeys:=p.keys
 obtain ⟨ep,hat⟩:=hd.dictAt
 refine kM ?_
 clear kM
 have hlen:cks.length=(kvs.map (·.1)).length:=by rw [←hkeys];simp
 have hpos:=hrow.pos
 refine kdu_sorted (kdl_dict (knd:=knS G) (kvs:=cks) (ep:=ep) (beq_eq_false_iff_ne.mpr hs)) S.hh F (news_rest (h:=s.heap)) hat (by rw [sizeLine_eq];lia) fun B h' tk vs F' N' hlt hl hv=>?_
 have hst:StrsAre vs (kvs.map (·.1)):=strs_of (hl.trans hlen) fun j v e=>by
  refine hideG fun M kM=>?_
  obtain ⟨k,y,hc,hi⟩:=hv j v e
  refine kM ?_
  clear kM
  obtain ⟨t,rfl⟩:=shS hi
  refine ⟨k,?_,t,rfl⟩
  rw [←hkeys,List.getElem?_map,hc]
  rfl
 have hvl:=strs_len hst
 generalize kvs.map (·.1)=ks at hst hrow h hpos hvl
 by_cases h2:2≤ks.length
 ·obtain ⟨pp,e1,e2,e3⟩:=tagRow_sort hrow h2
  refine kas_lsort (vs:=vs) (T:= .type "str") F' N' (UpdF.head fun q hq=>Nat.ne_of_lt (hlt q hq)) (by simp) (by exact le_of_le_of_eq h2 (id (Eq.symm hvl))) (by lia) (fun _ _ _ _=>strs_type hst) (by decide) fun e1' h'' F'' N''=>?_
  refine kasWp_run (n:=ks.length) (lt:=ltS ks) (fun i j C hi hj hC=>?_) _ pp (by rw [hvl];exact e1) ?_
  ·obtain ⟨t,et⟩:=strs_get hst i hi
   obtain ⟨u,eu⟩:=strs_get hst j hj
   unfold kas_ask
   rw [et,eu]
   exact kas_lt_str hC
  ·refine KasFin.intro F'' N'' (UpdF.head fun q hq=>Nat.ne_of_lt (hlt q hq)) fun h3 c F3 N3=>?_
   have rr:=strs_pick (P:=G.w.params) (K:=K) hst pp.toList e3
   rw [e2] at rr
   exact new_list S I O F3 N3 hlt rr h
 ·have e1:=tagRow_sort1 hrow (by exact Nat.lt_of_not_le h2)
  match vs,hst,hvl with
  | [v],hst,hvl=>
   refine sort_one F' N' (fun q hq=>Nat.ne_of_lt (hlt q hq)) fun h3 c F3 N3=>?_
   have rr:=strs_pick (P:=G.w.params) (K:=K) hst [0] (by simp;exact Nat.lt_of_sub_eq_succ (id (Eq.symm hvl)))
   refine new_list S I O (out:= [v]) F3 N3 hlt (ws:=(tagSort ks).map .str) ?_ h
   rw [e1]
   cases hst with
   |cons y t r=>cases r;exact .cons (.str _ _) .nil
  | [],_,hvl=>simp at hvl;lia
  |_::_::_,_,hvl=>simp at hvl;lia
end
theorem runO_congr {α:Type}{n:Nat}{lt lt':Nat→Nat→Bool}(h: ∀i j,i<n→j<n→lt i j=lt' i j): ∀t:KasT α,runO n lt t=runO n lt' t
 | .ret a=>rfl
 | .ask i j k=>by
  unfold runO
  split
  ·rename_i hij
   refine rwG (h i j hij.1 hij.2 ..) ?_
   exact runO_congr h _
  ·rfl
noncomputable def chkSort (n:Nat)(lt:Nat→Nat→Bool):Bool:=match runO n lt (kas_sort n) with
 |some p=>p.toList.isPerm (List.range n)&&(List.range (n - 1)).all fun k=>lt (p.toList.getD k 0) (p.toList.getD (k+1) 0)
 |none=>false
noncomputable def mat (b01 b02 b03 b12 b13 b23:Bool):Nat→Nat→Bool
 |0,1=>b01|0,2=>b02|0,3=>b03|1,2=>b12|1,3=>b13|2,3=>b23
 |1,0=>!b01|2,0=>!b02|3,0=>!b03|2,1=>!b12|3,1=>!b13|3,2=>!b23
 |_,_=>false
noncomputable def transM (n:Nat)(lt:Nat→Nat→Bool):Bool:=(List.range n).all fun i=>(List.range n).all fun j=>(List.range n).all fun k=>!(lt i j&&lt j k)||lt i k
theorem mat2 : ∀a:Bool,chkSort 2 (mat a false false false false false)=true:=by decide+kernel
theorem mat3 : ∀a b c:Bool,transM 3 (mat a b false c false false)=true→chkSort 3 (mat a b false c false false)=true:=by decide+kernel
theorem mat4 : ∀a b c d e f:Bool,transM 4 (mat a b c d e f)=true→chkSort 4 (mat a b c d e f)=true:=by decide+kernel
theorem chkSort_congr {n:Nat}{lt lt':Nat→Nat→Bool}(h: ∀i j,i<n→j<n→lt i j=lt' i j)(e:chkSort n lt=true):chkSort n lt'=true:=by
 unfold chkSort at e⊢
 rw [runO_congr h] at e
 split
 ·rename_i p hp
  rw [hp] at e
  dsimp only at e
  rw [Bool.and_eq_true] at e⊢
  refine ⟨e.1,?_⟩
  rw [List.all_eq_true] at e⊢
  intro k hk
  have hpm:p.toList.Perm (List.range n):=List.isPerm_iff.mp e.1
  have hlen:p.toList.length=n:=by rw [hpm.length_eq,List.length_range]
  have hm: ∀k,k<n→p.toList.getD k 0<n:=fun k hk=>by
   refine rwG (List.getD_eq_getElem?_getD ..) ?_;refine rwG (List.getElem?_eq_getElem (by exact Nat.lt_of_lt_of_eq hk (id (Eq.symm hlen))) ..) ?_;refine rwG (Option.getD_some ..) ?_
   exact List.mem_range.mp (hpm.mem_iff.mp (List.getElem_mem _))
  rw [List.mem_range] at hk
  refine rwGr (h _ _ (hm k (by exact Nat.lt_of_lt_pred hk)) (hm (k+1) (by exact Nat.add_lt_of_lt_sub hk)) ..) ?_
  exact e.2 k (List.mem_range.mpr hk)
 ·rename_i hp
  rw [hp] at e
  cases e
noncomputable def ltN (xs:List Int)(i j:Nat):Bool:=decide (xs.getD i 0<xs.getD j 0)
theorem chk_ltN {xs:List Int}(h2:2≤xs.length)(h4:xs.length≤4)(hn:xs.Nodup):chkSort xs.length (ltN xs)=true:=by
 have tr: ∀n,transM n (ltN xs)=true:=fun n=>by
  unfold transM
  rw [List.all_eq_true];intro i _
  rw [List.all_eq_true];intro j _
  rw [List.all_eq_true];intro k _
  unfold ltN
  generalize xs.getD i 0=a
  generalize xs.getD j 0=b
  generalize xs.getD k 0=c
  by_cases c1:a<b
  ·by_cases c2:b<c
   ·rw [decide_eq_true c1,decide_eq_true c2,decide_eq_true (show a<c by exact Int.lt_trans c1 c2)];rfl
   ·rw [decide_eq_true c1,decide_eq_false c2];rfl
  ·rw [decide_eq_false c1];rfl
 have ac: ∀i j,i≠j→i<xs.length→j<xs.length→ltN xs j i=!ltN xs i j:=fun i j hij hi hj=>by
  unfold ltN
  have hne:xs.getD i 0≠xs.getD j 0:=by
   refine rwG (List.getD_eq_getElem?_getD ..) ?_;refine rwG (List.getD_eq_getElem?_getD ..) ?_;refine rwG (List.getElem?_eq_getElem hi ..) ?_;refine rwG (List.getElem?_eq_getElem hj ..) ?_
   intro q
   exact hij ((List.getElem_inj hn).mp q)
  by_cases c:xs.getD i 0<xs.getD j 0
  ·rw [decide_eq_true c,decide_eq_false (by exact Int.lt_asymm c)];rfl
  ·rw [decide_eq_false c,decide_eq_true (by lia)];rfl
 have irr: ∀i,ltN xs i i=false:=fun i=>by unfold ltN;simp
 have key: ∀n,n=xs.length→ ∀M:Nat→Nat→Bool,(∀i j,i<n→j<n→M i j=ltN xs i j)→transM n M=true:=fun n hn M hM=>by
  have:=tr n
  unfold transM at this⊢
  rw [List.all_eq_true] at this⊢;intro i hi
  have:=this i hi
  rw [List.all_eq_true] at this⊢;intro j hj
  have:=this j hj
  rw [List.all_eq_true] at this⊢;intro k hk
  have:=this k hk
  rw [List.mem_range] at hi hj hk
  refine rwG (hM i j hi hj ..) ?_;refine rwG (hM j k hj hk ..) ?_;refine rwG (hM i k hi hk ..) ?_
  exact this
 rcases (show xs.length=2∨xs.length=3∨xs.length=4 by lia) with e|e|e
 ·have hM: ∀i j,i<2→j<2→mat (ltN xs 0 1) false false false false false i j=ltN xs i j:=fun i j hi hj=>by
   rcases (lt2c hi) with rfl|rfl<;>rcases (lt2c hj) with rfl|rfl<;>first|exact (irr _).symm|rfl|exact (ac _ _ (by decide) (by exact Nat.zero_lt_of_lt h2) (by exact Nat.lt_of_lt_of_le hi h2)).symm
  refine rwG (e ..) ?_
  exact chkSort_congr hM (mat2 _)
 ·have hM: ∀i j,i<3→j<3→mat (ltN xs 0 1) (ltN xs 0 2) false (ltN xs 1 2) false false i j=ltN xs i j:=fun i j hi hj=>by
   rcases (lt3c hi) with rfl|rfl|rfl<;>rcases (lt3c hj) with rfl|rfl|rfl<;>first|exact (irr _).symm|rfl|exact (ac _ _ (by decide) (by lia) (by lia)).symm
  refine rwG (e ..) ?_
  exact chkSort_congr hM (mat3 _ _ _ (key 3 e.symm _ hM))
 ·have hM: ∀i j,i<4→j<4→mat (ltN xs 0 1) (ltN xs 0 2) (ltN xs 0 3) (ltN xs 1 2) (ltN xs 1 3) (ltN xs 2 3) i j=ltN xs i j:=fun i j hi hj=>by
   rcases (lt4c hi) with rfl|rfl|rfl|rfl<;>rcases (lt4c hj) with rfl|rfl|rfl|rfl<;>first|exact (irr _).symm|rfl|exact (ac _ _ (by decide) (by lia) (by lia)).symm
  refine rwG (e ..) ?_
  exact chkSort_congr hM (mat4 _ _ _ _ _ _ (key 4 e.symm _ hM))
theorem sort_ltN {xs:List Int}(h2:2≤xs.length)(h4:xs.length≤4)(hn:xs.Nodup): ∃p,runO xs.length (ltN xs) (kas_sort xs.length)=some p∧p.toList.Perm (List.range xs.length)∧ ∀k,k+1<xs.length→xs.getD (p.toList.getD k 0) 0<xs.getD (p.toList.getD (k+1) 0) 0:=by
 have c:=chk_ltN h2 h4 hn
 unfold chkSort at c
 split at c
 ·rename_i p hp
  rw [Bool.and_eq_true] at c
  refine ⟨p,hp,List.isPerm_iff.mp c.1,fun k hk=>?_⟩
  rw [List.all_eq_true] at c
  exact of_decide_eq_true (c.2 k (List.mem_range.mpr (by exact Nat.lt_sub_of_add_lt hk)))
 ·cases c
noncomputable abbrev Tri :=Int×Int×Int
noncomputable abbrev tri (t:Tri):AVal:= .tup [.int t.1,.int t.2.1,.int t.2.2]
noncomputable def Asc (rows:List Tri):Prop:= ∀(k:Nat) (a b:Tri),rows[k]?=some a→rows[k+1]?=some b→a.1<b.1
inductive TrisAre (K:Kept):List Value→List Tri→Prop where
 |nil:TrisAre K [] []
 |cons {a:Addr}{t1 t2 t3:Tok}{n:Nat}{x y z:Int}{vs:List Value}{rows:List Tri}(hk:K a (Internal.seqObj "tuple" [.int x t1,.int y t2,.int z t3] n)) (h:TrisAre K vs rows):TrisAre K (.ref a::vs) ((x,y,z)::rows)
theorem VRels.tris {P:Params}{K:Kept}{rows:List Tri}{cvs:List Value}(h:VRels P K (rows.map tri) cvs):TrisAre K cvs rows:=by
 induction rows generalizing cvs with
 |nil=>exact h.nilE .nil
 |cons p r ih=>
  refine h.consE fun _ _ a b=>a.tupE fun l cs n hk hv=>?_
  revert hk
  exact hv.threeE fun _ _ _ h1 h2 h3=>h1.intE fun _=>h2.intE fun _=>h3.intE fun _ hk=> .cons hk (ih b)
theorem TrisAre.len {K:Kept}{vs:List Value}{rows:List Tri}(h:TrisAre K vs rows):vs.length=rows.length:=by
 induction h with
 |nil=>rfl
 |cons hk h ih=>simp [ih]
theorem TrisAre.get {K:Kept}{vs:List Value}{rows:List Tri}(h:TrisAre K vs rows)(i:Nat)(hi:i<rows.length): ∃a t1 t2 t3 n,vs.getD i Value.none= .ref a∧K a (Internal.seqObj "tuple" [.int (rows.getD i (0,0,0)).1 t1,.int (rows.getD i (0,0,0)).2.1 t2,.int (rows.getD i (0,0,0)).2.2 t3] n):=by
 induction h generalizing i with
 |nil=>exact absurd hi (Nat.not_lt_zero _)
 |cons hk _ ih=>
  cases i with
  |zero=>exact ⟨_,_,_,_,_,rfl,hk⟩
  |succ i=>exact ih i (Nat.lt_of_succ_lt_succ hi)
theorem TrisAre.pick {P:Params}{K:Kept}{vs:List Value}{rows:List Tri}(h:TrisAre K vs rows): ∀(is:List Nat),(∀i∈is,i<rows.length)→VRels P K ((is.map fun i=>rows.getD i (0,0,0)).map tri) (is.map fun i=>vs.getD i Value.none)
 | [],_=> .nil
 |i::r,hi=>by
  refine hideG fun M kM=>?_
  obtain ⟨a,t1,t2,t3,n,e,hk⟩:=h.get i (hi i (.head _))
  refine kM ?_
  clear kM
  have ih:=h.pick (P:=P) r fun j hj=>hi j (.tail _ hj)
  simp only [List.map_cons]
  refine rwG (e ..) ?_
  exact .cons (.tup hk (.cons (.int _ _) (.cons (.int _ _) (.cons (.int _ _) .nil)))) ih
theorem TrisAre.tups {K:Kept}{h:Heap}(hK: ∀a o,K a o→h.get? a=some o){vs:List Value}{rows:List Tri}(r:TrisAre K vs rows): ∃fs,KatTups h vs fs∧fs.length=rows.length∧ ∀v∈fs,∃i t,v=Value.int i t:=by
 induction r with
 |nil=>exact ⟨[],.nil,rfl,fun v hv=>nomatch hv⟩
 |cons hk _ ih=>
  refine hideG fun M kM=>?_
  obtain ⟨fs,k,l,t⟩:=ih
  refine kM ?_
  clear kM
  exact ⟨_::fs,.cons (hK _ _ hk) rfl rfl rfl k,congrArg (· +1) l,fun v hv=>by
   rcases List.mem_cons.mp hv with rfl|hv
   ·exact ⟨_,_,rfl⟩
   ·exact t v hv⟩
theorem sorted_one {prog:Program}{w:World}{A:Around}{E:Value→Shared→Prop}{s:Shared}{h₀:Heap}{L:Addr}{m:Str→Option Value}{news:List (Addr×Obj)}{l:Addr}{v:Value}{Q:Value→Shared→Prop}(F:Fr h₀ L s.heap m)(N:News h₀ L s.heap news)(hl:s.heap.IsList l #[v])
  (k: ∀D h' c,Fr h₀ L h' m→News h₀ L h' ((D,PySem.W.listOf #[v] c)::news)→(∀q∈news,q.1<D)→Q (.ref D) {s with heap:=h'}):wpAny (model prog w) A (call (.builtin "sorted") [.ref l]) Q E s:=by
 refine Calls.call_function_entry kind_sorted plain_sorted entry_sorted (args_sorted1 _) ?_
 unfold Builtin.«sorted»
 refine wpAny_bind (m:=checkCount "sorted" 1 1 _) (wpAny_pure ?_)
 refine wpAny_bind (collect_list (vs:= [v]) hl ?_ (by rw [sizeLine_eq];simp))
 refine wpAny_bind (wpAny_newList ?_ (by rw [sizeLine_eq];simp))
 have hsz:((s.heap.push (PyProof.Rows.seqObj "list" #[] 0)).update s.heap.objs.size (Obj.mapSeq (· ++ #[v]))).objs.size=s.heap.objs.size+1:=by
  rw [Heap.size_update,size_push']
 have hoL:(((s.heap.push (PyProof.Rows.seqObj "list" #[] 0)).update s.heap.objs.size (Obj.mapSeq (· ++ #[v]))).push (PyProof.Rows.seqObj "list" #[v] 0)).get? (s.heap.objs.size+1)=some (PyProof.Rows.seqObj "list" #[v] 0):=by
  rw [←hsz];exact Heap.get?_push_size _ rfl
 have keep: ∀b o,s.heap.get? b=some o→(((s.heap.push (PyProof.Rows.seqObj "list" #[] 0)).update s.heap.objs.size (Obj.mapSeq (· ++ #[v]))).push (PyProof.Rows.seqObj "list" #[v] 0)).get? b=some o:=fun b o q=>by
  have hlt:b<s.heap.objs.size:=Heap.lt_size q
  refine rwG (Heap.get?_push_ne _ _ _ (by rw [hsz];exact Nat.ne_of_lt (Nat.lt_succ_of_lt hlt)) ..) ?_;refine rwG (Heap.get?_update_ne _ _ _ _ (Nat.ne_of_lt hlt) ..) ?_;refine rwG (Heap.get?_push_ne _ _ _ (Nat.ne_of_lt hlt) ..) ?_
  exact q
 have hL:L<s.heap.objs.size:=F.ns.lt
 show wpAny _ _ _ _ _ {s with heap:=((s.heap.push (PyProof.Rows.seqObj "list" #[] 0)).update s.heap.objs.size (Obj.mapSeq (· ++ #[v]))).push (PyProof.Rows.seqObj "list" #[v] 0)}
 refine rwG (hsz ..) ?_
 have hlt: ∀p∈news,p.1<s.heap.objs.size+1:=fun p hp=>Nat.lt_succ_of_lt (Heap.lt_size (N p hp).1)
 refine wpAny_bind (wpAny_holding (sort_one (news:=news) (v:=v) (n:=0) (F.kept keep) (fun p hp=>?_) (fun p hp=>Nat.ne_of_lt (hlt p hp)) fun h' c F' N'=>?_))
 ·rcases List.mem_cons.mp hp with rfl|hp
  ·exact ⟨hoL,Nat.ne_of_gt (Nat.lt_succ_of_lt hL),Heap.get?_none_of_le (Nat.le_trans F.above (Nat.le_succ_of_le (Nat.le_of_lt hL)))⟩
  ·exact N.grown keep p hp
 ·exact wpAny_pure ⟨_,rfl,k _ h' c F' N' hlt⟩
section
variable {G:Gl}{C:Cx}{lv:List (Option AVal)}{σ:Own}{Q:AVal→Own→Prop}{x:Prop}
theorem CallP.sortedT {a:Addr}{j:Nat}{rows:List Tri}(hj:σ[j]?=some (a,.list (rows.map tri)))(h1:1≤rows.length)(h4:rows.length≤4)(hn:(rows.map (·.1)).Nodup)
  (h: ∀rows',rows'.Perm rows→Asc rows'→Q (.lst (rows'.map tri)) σ):CallP G C lv σ (.builtin "sorted") [.ref a] Q x:=by
 intro K J m own s cvs S I O r
 refine r.oneE fun _ r1=>?_
 refine r1.refE ?_
 have F:=S.fr I
 have O':=O
 revert I O
 refine O'.listE hj fun l1 l2 vs n hv _ I O=>?_
 have hT:=hv.tris
 have hl:=hT.len
 have hL:=seq_list (I.mem (List.mem_singleton_self _))
 by_cases h2:2≤rows.length
 ·refine kat_sorted (vs:=vs) F (news_rest (h:=s.heap)) hL (by exact le_of_le_of_eq h2 (id (Eq.symm hl))) (by lia) fun D e1 h' F' N' hlt=>?_
  have kp: ∀b o,K b o→h'.get? b=some o:=fun b o e=>by
   have g:Grow C.L m s.heap h':=Grow.of_news F F' N' fun p hp=> .tail _ hp
   exact g.keep b o (fun q=>I.kL o (q▸e)) (I.k b o e)
  refine hideG fun M kM=>?_
  obtain ⟨fs,t1,t2,t3⟩:=hT.tups (h:=h') kp
  refine kM ?_
  clear kM
  refine kat_kind (fs:=fs) (T:= .type "int") t1 (by exact Nat.lt_of_lt_of_eq h1 (id (Eq.symm t2))) (fun v hv=>?_) (by decide) ?_
  ·obtain ⟨i,t,rfl⟩:=t3 v hv
   exact Looks.of_pure rfl
  refine hideG fun M kM=>?_
  obtain ⟨p,p1,p2,p3⟩:=sort_ltN (xs:=rows.map (·.1)) (by simpa using h2) (by simpa using h4) hn
  refine kM ?_
  clear kM
  rw [List.length_map] at p1 p2 p3
  refine kasWp_run (n:=rows.length) (lt:=ltN (rows.map (·.1))) (fun i j C hi hj' hC=>?_) _ p (by rw [hl];exact p1) ?_
  ·obtain ⟨a1,u1,u2,u3,n1,ea,ka⟩:=hT.get i hi
   refine hideG fun M kM=>?_
   obtain ⟨a2,w1,w2,w3,n2,eb,kb⟩:=hT.get j hj'
   refine kM ?_
   clear kM
   unfold kas_ask
   refine rwG (ea ..) ?_;refine rwG (eb ..) ?_
   refine kat_lt (kp _ _ ka) rfl (kp _ _ kb) rfl (kat_cons (wpAny_eqBool_int ?_))
   have gi: ∀i,i<rows.length→(rows.map (·.1)).getD i 0=(rows.getD i (0,0,0)).1:=fun i hi=>by
    refine rwG (List.getD_eq_getElem?_getD ..) ?_;refine rwG (List.getD_eq_getElem?_getD ..) ?_;refine rwG (List.getElem?_map ..) ?_;refine rwG (List.getElem?_eq_getElem hi ..) ?_
    rfl
   unfold ltN at hC
   rw [gi i hi,gi j hj'] at hC
   by_cases hij:i=j
   ·subst hij
    refine rwG (show ((rows.getD i (0,0,0)).1==(rows.getD i (0,0,0)).1)=true by simp) ?_
    refine kat_yes (kat_cons (wpAny_eqBool_int ?_))
    refine rwG (show ((rows.getD i (0,0,0)).2.1==(rows.getD i (0,0,0)).2.1)=true by simp) ?_
    refine kat_yes (kat_cons (wpAny_eqBool_int ?_))
    refine rwG (show ((rows.getD i (0,0,0)).2.2==(rows.getD i (0,0,0)).2.2)=true by simp) ?_
    refine kat_yes (kat_nil ?_)
    rw [decide_eq_false (Int.lt_irrefl _)] at hC
    exact hC
   ·have hne:(rows.getD i (0,0,0)).1≠(rows.getD j (0,0,0)).1:=by
     refine rwGr (gi i hi ..) ?_;refine rwGr (gi j hj' ..) ?_;refine rwG (List.getD_eq_getElem?_getD ..) ?_;refine rwG (List.getD_eq_getElem?_getD ..) ?_;refine rwG (List.getElem?_eq_getElem (by simpa using hi) ..) ?_;refine rwG (List.getElem?_eq_getElem (by simpa using hj') ..) ?_
     intro q
     exact hij ((List.getElem_inj hn).mp q)
    refine rwG (show ((rows.getD i (0,0,0)).1==(rows.getD j (0,0,0)).1)=false by simpa using hne) ?_
    exact kat_no (oneLt_int hC)
  ·refine KasFin.intro F' N' (UpdF.head fun q hq=>Nat.ne_of_lt (hlt q hq)) fun h3 c F3 N3=>?_
   have hm: ∀i∈p.toList,i<rows.length:=fun i hi=>List.mem_range.mp (p2.mem_iff.mp hi)
   refine new_list S I O F3 N3 hlt (hT.pick (P:=G.w.params) p.toList hm) (h _ ?_ ?_)
   ·have e:(List.range rows.length).map (fun i=>rows.getD i (0,0,0))=rows:=by
     refine List.ext_getElem? fun i=>?_
     refine rwG (List.getElem?_map ..) ?_
     by_cases hi:i<rows.length
     ·rw [List.getElem?_range hi,Option.map_some,List.getD_eq_getElem?_getD,List.getElem?_eq_getElem hi];rfl
     ·rw [List.getElem?_eq_none (by simpa using hi),List.getElem?_eq_none (by exact Nat.le_of_not_lt hi)];rfl
    have:=p2.map (fun i=>rows.getD i (0,0,0))
    rw [e] at this
    exact this
   ·intro k a b ha hb
    rw [List.getElem?_map] at ha hb
    have hpl:p.toList.length=rows.length:=by rw [p2.length_eq,List.length_range]
    have hk:k+1<rows.length:=by
     rcases Nat.lt_or_ge (k+1) p.toList.length with q|q
     ·exact Nat.lt_of_lt_of_eq q hpl
     ·rw [List.getElem?_eq_none q] at hb;cases hb
    have:=p3 k hk
    rw [List.getD_eq_getElem?_getD (l:=p.toList),List.getD_eq_getElem?_getD (l:=p.toList),List.getElem?_eq_getElem (by lia),List.getElem?_eq_getElem (by exact Nat.lt_of_lt_of_eq hk (id (Eq.symm hpl))),Option.getD_some,Option.getD_some] at this
    rw [List.getElem?_eq_getElem (by lia)] at ha hb
    rw [Option.map_some] at ha hb
    have ha:=Option.some.inj ha
    have hb:=Option.some.inj hb
    have gi: ∀i,i<rows.length→(rows.map (·.1)).getD i 0=(rows.getD i (0,0,0)).1:=fun i hi=>by
     refine rwG (List.getD_eq_getElem?_getD ..) ?_;refine rwG (List.getD_eq_getElem?_getD ..) ?_;refine rwG (List.getElem?_map ..) ?_;refine rwG (List.getElem?_eq_getElem hi ..) ?_
     rfl
    rw [gi _ (hm _ (List.getElem_mem _)),gi _ (hm _ (List.getElem_mem _)),ha,hb] at this
    exact this
 ·match rows,h1,h2,hT,hl with
  | [(xx,yy,zz)],_,_,hT,hl=>
   cases hT with
   |cons hk hT=>
    cases hT
    refine sorted_one F (news_rest (h:=s.heap)) hL fun D h' c F' N' hlt=>?_
    refine new_list S I O (out:= [.ref _]) F' N' hlt (ws:= [tri (xx,yy,zz)]) ?_ (h [(xx,yy,zz)] (.refl _) fun k a b ha hb=>by simp at hb)
    exact .cons (.tup hk (.cons (.int _ _) (.cons (.int _ _) (.cons (.int _ _) .nil)))) .nil
  | [],h1,_,_,_=>simp at h1
  |_::_::_,_,h2,_,_=>simp at h2
end
section
variable {G:Gl}{C:Cx}{lv:List (Option AVal)}{σ:Own}{Q:AVal→Own→Prop}{x:Prop}
theorem CallP.sum {ns:List Int}(h:Q (.int ns.sum) σ):CallP G C lv σ (.builtin "sum") [.lst (ns.map .int)] Q x:=by
 intro K J m own s cvs S I O r
 refine r.oneE fun _ r1=>?_
 refine r1.lstE fun _ _ _ hk hv=>?_
 have hi:=hv.ints
 obtain ⟨xs,hxs⟩:=hi.allInts.items
 have hl:=seq_list (I.k _ _ hk)
 rw [hxs] at hl
 refine sum_intListG S.hh hl fun h' tk t' hk'=>?_
 have g:Grow C.L m s.heap h':=⟨fun b o _ e=>hk' b o e,I.ns.keeps hk'⟩
 have e:preSum (numAt xs) xs.size=ns.sum:=by
  rw [preSum_eq,List.take_of_length_le (by simp)]
  have:=hi.numsOf
  rw [←nums_intItems,←hxs]
  exact congrArg List.sum this
 rw [e]
 exact ⟨K,own,_,σ,h',tk,rfl,fun _ _ e=>e,I.grow g,O,.int _ _,h⟩
theorem sign_lt {y:Str}{prog:Program}{w:World}{A:Around}:CmpOf prog w A .Lt (SignAt y) (fun i j=>decide ((⟨#[y.cps.getD i 0]⟩:Str).cps.toList<(⟨#[y.cps.getD j 0]⟩:Str).cps.toList)):=by
 rintro i j vi vj s Q E ⟨c,u,hc,rfl⟩ ⟨d,v,hd,rfl⟩ hQ
 have e1:y.cps.getD i 0=c:=by rw [Array.getD_eq_getD_getElem?,hc];rfl
 have e2:y.cps.getD j 0=d:=by rw [Array.getD_eq_getD_getElem?,hd];rfl
 dsimp only at hQ
 rw [e1,e2] at hQ
 exact PyProof.Rows.lt_str hQ
theorem sign_gt {y:Str}{prog:Program}{w:World}{A:Around}:CmpOf prog w A .Gt (SignAt y) (fun i j=>decide ((⟨#[y.cps.getD j 0]⟩:Str).cps.toList<(⟨#[y.cps.getD i 0]⟩:Str).cps.toList)):=by
 rintro i j vi vj s Q E ⟨c,u,hc,rfl⟩ ⟨d,v,hd,rfl⟩ hQ
 have e1:y.cps.getD i 0=c:=by rw [Array.getD_eq_getD_getElem?,hc];rfl
 have e2:y.cps.getD j 0=d:=by rw [Array.getD_eq_getD_getElem?,hd];rfl
 dsimp only at hQ
 rw [e1,e2] at hQ
 exact PySem.P.gt_str hQ
theorem CallP.minS {y:Str}(hy:0<y.cps.size)(h: ∀c∈y.cps.toList,Q (.str ⟨#[c]⟩) σ):CallP G C lv σ (.builtin "min") [.str y] Q x:=by
 intro K J m own s cvs S I O r
 refine r.oneE fun _ r1=>?_
 refine r1.strE fun t=>?_
 refine call_min_walk (wpAny_pyIter_str fun o St W h0=>⟨_,_,_,_,_,St,_,rfl,W _ S.hh,h0,fun b hb=>by simp at hb;subst hb;simp,hy,sign_lt,fun v h' tk ⟨c,u,hc,hv⟩ hk=>?_⟩)
 subst hv
 have kp: ∀b o,s.heap.get? b=some o→h'.get? b=some o:=fun b o' e=>hk b o' (by simp;exact Nat.ne_of_lt (Heap.lt_size e)) (Heap.get?_push_of_some _ e)
 have g:Grow C.L m s.heap h':=⟨fun b o _ e=>kp b o e,I.ns.keeps kp⟩
 exact ⟨K,own,_,σ,h',tk,rfl,fun _ _ e=>e,I.grow g,O,.str _ _,h c (by rw [←Array.getElem?_toList] at hc;exact List.mem_of_getElem? hc)⟩
theorem CallP.maxS {y:Str}(hy:0<y.cps.size)(h: ∀c∈y.cps.toList,Q (.str ⟨#[c]⟩) σ):CallP G C lv σ (.builtin "max") [.str y] Q x:=by
 intro K J m own s cvs S I O r
 refine r.oneE fun _ r1=>?_
 refine r1.strE fun t=>?_
 refine call_max_walk (wpAny_pyIter_str fun o St W h0=>⟨_,_,_,_,_,St,_,rfl,W _ S.hh,h0,fun b hb=>by simp at hb;subst hb;simp,hy,sign_gt,fun v h' tk ⟨c,u,hc,hv⟩ hk=>?_⟩)
 subst hv
 have kp: ∀b o,s.heap.get? b=some o→h'.get? b=some o:=fun b o' e=>hk b o' (by simp;exact Nat.ne_of_lt (Heap.lt_size e)) (Heap.get?_push_of_some _ e)
 have g:Grow C.L m s.heap h':=⟨fun b o _ e=>kp b o e,I.ns.keeps kp⟩
 exact ⟨K,own,_,σ,h',tk,rfl,fun _ _ e=>e,I.grow g,O,.str _ _,h c (by rw [←Array.getElem?_toList] at hc;exact List.mem_of_getElem? hc)⟩
theorem Bin.addL {vs ws:List AVal}(hz:vs.length+ws.length≤16777216)(h:Q (.lst (vs++ws)) σ):Bin G C lv σ .Add (.lst vs) (.lst ws) Q x:=by
 intro K J m own s ca cb S I O ra rb
 refine ra.lstE fun _ _ _ hk hv=>?_
 refine rb.lstE fun _ _ _ hk2 hv2=>?_
 refine add_lists (S.fr I) (news_rest (h:=s.heap)) (seq_list (I.k _ _ hk)) (seq_list (I.k _ _ hk2)) (fun h' F' N'=>?_) (by rw [sizeLine_eq,hv.length,hv2.length];exact hz)
 refine new_list S I O (c:=0) F' N' (fun q hq=>Heap.lt_size (mem_restOf.mp hq).1) (hv.append hv2) h
theorem Bin.mulLst {vs:List AVal}{k:Int}(hv0:vs≠ [])(h0:0≤k)(hk:k≤100)(hz:vs.length≤1000)(h:Q (.lst (List.replicate k.toNat vs).flatten) σ):Bin G C lv σ .Mult (.lst vs) (.int k) Q x:=by
 intro K J m own s ca cb S I O ra rb
 refine rb.intE fun u=>?_
 refine ra.lstE fun l cvs n hkk hv=>?_
 have hl:=hv.length
 have ho:=I.k _ _ hkk
 have hmul:cvs.length*k.toNat≤1000*100:=Nat.mul_le_mul (by exact le_of_eq_of_le hl hz) (by exact Int.toNat_le.mpr hk)
 refine wpAny_binaryOp_repeat_ref (T:= "list") (U:= "int") (by decide) ⟨_,ho,rfl⟩ (fun s'=>typeIs_int s' k u) noFill_list_mul F.fills_int_mul F.slot_int_rmul repeat_list F.slot_int_index.lookup
  (call_meets F.slot_int_rmul (typeIs_int s k u) F.entry_int_rmul (F.args_int_rmul_2 _ _) (lm_int_rmul_list_any k u l cvs.toArray n none #[])
   ⟨ho,rfl,⟨_,ho,rfl⟩,call_meets F.slot_list_mul ⟨_,ho,rfl⟩ F.entry_list_mul (F.args_list_mul_2 _ _)
    (lm_list_mul_any l cvs.toArray n none #[] k u (by simp [Builtin.List.listFitsIndex];lia) (by rw [List.size_toArray];lia) (by simp [Builtin.List.listTooLong,sizeLine];lia))
    ⟨ho,?_⟩⟩)
 have N':=News.push (S.fr I) (news_rest (h:=s.heap)) {cls:=Value.type "list",data:=Data.seq (List.foldl (fun x1 x2=>x1++x2) #[] (List.replicate (if cvs.toArray.isEmpty=true then 0 else k.toNat) cvs.toArray))}
 rw [listMul_foldl_if] at N'⊢
 have rr: ∀q:Nat,VRels G.w.params K (List.replicate q vs).flatten (List.replicate q cvs.toArray.toList).flatten:=fun q=>by
  induction q with
  |zero=>exact .nil
  |succ q ih=>rw [List.replicate_succ,List.flatten_cons,List.replicate_succ,List.flatten_cons];exact hv.append ih
 exact new_list S I O (c:=0) ((S.fr I).push _) N' (fun q hq=>Heap.lt_size (mem_restOf.mp hq).1) (rr k.toNat) h
end
noncomputable def EqT (prog:Program)(w:World)(A:Around)(s:Shared)(y x:Value):Prop:= ∀(E:Value→Shared→Prop) (Q:Bool→Shared→Prop),Q true s→wpAny (model prog w) A (eqBool y x) Q E s
section
variable {prog:Program}{w:World}{A:Around}{E:Value→Shared→Prop}{s:Shared}
theorem EqT.int (i:Int)(t u:Tok):EqT prog w A s (.int i t) (.int i u):=fun E Q h=>wpAny_eqBool_int (by rw [show (i==i)=true by simp];exact h)
theorem EqT.refs {l b:Addr}(h:l≠b→ ∀(E:Value→Shared→Prop) (Q:Value→Shared→Prop),Q (.bool true) s→wpAny (model prog w) A (compareOp .Eq (.ref l) (.ref b)) Q E s):EqT prog w A s (.ref l) (.ref b):=fun E Q hq=>by
 by_cases e:l=b
 ·subst e
  exact SeqAt.EqAt.same _ prog w E Q hq
 ·unfold eqBool
  refine wpAny_holding ?_
  refine wpAny_ite_split (fun hab=>absurd (by have:=eq_of_beq hab;injection this) e) (fun _=>?_)
  exact wpAny_bind (h e E _ (wpAny_truthy_bool hq))
theorem eqT_tuple {l b:Addr}{items items2:List Value}{n n2:Nat}{Q:Value→Shared→Prop}(hl:s.heap.get? l=some (Internal.seqObj "tuple" items n))(hb:s.heap.get? b=some (Internal.seqObj "tuple" items2 n2))(hu:A.units<cLine)
  (hsz:items.length=items2.length) (he: ∀p∈items.zip items2,EqT prog w A.in1 s p.1 p.2) (h:Q (.bool true) s):wpAny (model prog w) A (compareOp .Eq (.ref l) (.ref b)) Q E s:=by
 refine wpAny_richCompare_same_room (op:= .Eq) (T:= "tuple") ⟨_,hl,rfl⟩ ⟨_,hb,rfl⟩ PySem.F.slot_tuple_eq (wpAny_call_entry PySem.F.slot_tuple_eq ⟨_,hl,rfl⟩ PySem.F.entry_tuple_eq ?_ (PySem.F.args_tuple_eq_2 _ _)) hu
 obtain ⟨hp,g,d,tk,os⟩:=s
 have f2:=AutoSeq1.sub_tuple_tuple
 wp_walk using wpAny_loadPart' hl,wpAny_loadPart' hb,wpAny_forIn_list _ (fun rest b s'=>b.1=none∧s'=⟨hp,g,d,tk,os⟩∧ ∀p∈rest,p∈items.zip items2) _
 case turn=>
  rintro ⟨y,x⟩ rest b s' ⟨hb',rfl,hz⟩
  refine wpAny_bind (he _ (hz _ (.head _)) _ _ ?_)
  wp_walk
  exact ⟨rfl,rfl,fun p hp'=>hz p (.tail _ hp')⟩
 case fin=>
  rintro ⟨b1,b2⟩ s' ⟨hb',rfl,hz⟩
  simp only at hb'
  subst hb'
  wp_walk
  refine ⟨_,rfl,(fun x=>nomatch x),?_⟩
  refine rwG (show Builtin.Tuple.tupleCompareSizes CmpOp.Eq items.toArray.size items2.toArray.size= .bool true by simp [Builtin.Tuple.tupleCompareSizes,hsz]) ?_
  exact h
 case h=>
  exact ⟨rfl,rfl,fun p hp'=>hp'⟩
theorem eqT_loop {l b:Addr}{items items2:List Value}{n n2:Nat}(hl:s.heap.get? l=some (Internal.seqObj "list" items n))(hb:s.heap.get? b=some (Internal.seqObj "list" items2 n2))
  (hsz:items.length=items2.length) (he: ∀p∈items.zip items2,EqT prog w A.in1 s p.1 p.2) {R:Result→Shared→Prop}(h:R (.ok (.ret (.bool true))) s) (k:Nat): ∀i:Nat,items.length - i=k→
  wpAny (model prog w) A.in1 (Builtin.«list.__eq__.loop» ⟨[.ref l,.ref b,rawInt i,rawInt 2],[]⟩) (fun fin s'=>match fin with| .done f=>R (.ok f) s'| .again c'=>c'.quiet=true∧codeAny (model prog w) A c' R s') (fun e s'=>R (.error e) s') s:=by
 induction k with
 |zero=>
  intro i hk
  obtain ⟨hp,g,d,tk,os⟩:=s
  wp_walk using wpAny_loadPart' hl,wpAny_loadPart' hb
  have hi1:items.toArray[((i:Nat):Int).toNat]?=none:=by simp;exact Nat.le_of_sub_eq_zero hk
  have hi2:items2.toArray[((i:Nat):Int).toNat]?=none:=by simp;lia
  rw [hi1,hi2]
  wp_walk using wpAny_loadPart' hl,wpAny_loadPart' hb
  show R (.ok (.ret (.bool (items.toArray.size==items2.toArray.size)))) _
  rw [show (items.toArray.size==items2.toArray.size)=true by simp [hsz]]
  exact h
 |succ k ih=>
  intro i hk
  have hlt:i<items.length:=by exact Nat.lt_of_sub_eq_succ hk
  have hlt2:i<items2.length:=by exact Nat.lt_of_lt_of_eq hlt hsz
  have hm:(items[i],items2[i])∈items.zip items2:=by
   refine List.mem_of_getElem? (i:=i) ?_
   rw [List.getElem?_zip_eq_some]
   exact ⟨List.getElem?_eq_getElem hlt,List.getElem?_eq_getElem hlt2⟩
  have he':=he _ hm
  have nx:=ih (i+1) (by exact subP hk)
  obtain ⟨hp,g,d,tk,os⟩:=s
  wp_walk using wpAny_loadPart' hl,wpAny_loadPart' hb
  have hi1:items.toArray[((i:Nat):Int).toNat]?=some items[i]:=by simp [hlt]
  have hi2:items2.toArray[((i:Nat):Int).toNat]?=some items2[i]:=by simp [hlt2]
  have hc:((i:Int)+1)=((i+1:Nat):Int):=by push_cast;rfl
  refine rwG (hi1 ..) ?_;refine rwG (hi2 ..) ?_
  refine wpAny_bind (he' _ _ ?_)
  wp_walk
  refine rwG (hc ..) ?_
  exact ⟨plainId_quiet MeetsSeq3.plain_eq_loop _,codeAny_builtin MeetsSeq3.entry_eq_loop (by
   refine rwG (Around.under_plainId MeetsSeq3.plain_eq_loop _ ..) ?_
   exact nx)⟩
theorem neT_loop {l b:Addr}{items items2:List Value}{n n2:Nat}(hl:s.heap.get? l=some (Internal.seqObj "list" items n))(hb:s.heap.get? b=some (Internal.seqObj "list" items2 n2))
  (hsz:items.length=items2.length) (he: ∀p∈items.zip items2,EqT prog w A.in1 s p.1 p.2) {R:Result→Shared→Prop}(h:R (.ok (.ret (.bool false))) s) (k:Nat): ∀i:Nat,items.length - i=k→
  wpAny (model prog w) A.in1 (Builtin.«list.__eq__.loop» ⟨[.ref l,.ref b,rawInt i,rawInt 3],[]⟩) (fun fin s'=>match fin with| .done f=>R (.ok f) s'| .again c'=>c'.quiet=true∧codeAny (model prog w) A c' R s') (fun e s'=>R (.error e) s') s:=by
 induction k with
 |zero=>
  intro i hk
  obtain ⟨hp,g,d,tk,os⟩:=s
  wp_walk using wpAny_loadPart' hl,wpAny_loadPart' hb
  have hi1:items.toArray[((i:Nat):Int).toNat]?=none:=by simp;exact Nat.le_of_sub_eq_zero hk
  have hi2:items2.toArray[((i:Nat):Int).toNat]?=none:=by simp;lia
  rw [hi1,hi2]
  wp_walk using wpAny_loadPart' hl,wpAny_loadPart' hb
  show R (.ok (.ret (.bool (items.toArray.size !=items2.toArray.size)))) _
  rw [show (items.toArray.size !=items2.toArray.size)=false by simp [hsz]]
  exact h
 |succ k ih=>
  intro i hk
  have hlt:i<items.length:=by exact Nat.lt_of_sub_eq_succ hk
  have hlt2:i<items2.length:=by exact Nat.lt_of_lt_of_eq hlt hsz
  have hm:(items[i],items2[i])∈items.zip items2:=by
   refine List.mem_of_getElem? (i:=i) ?_
   rw [List.getElem?_zip_eq_some]
   exact ⟨List.getElem?_eq_getElem hlt,List.getElem?_eq_getElem hlt2⟩
  have he':=he _ hm
  have nx:=ih (i+1) (by exact subP hk)
  obtain ⟨hp,g,d,tk,os⟩:=s
  wp_walk using wpAny_loadPart' hl,wpAny_loadPart' hb
  have hi1:items.toArray[((i:Nat):Int).toNat]?=some items[i]:=by simp [hlt]
  have hi2:items2.toArray[((i:Nat):Int).toNat]?=some items2[i]:=by simp [hlt2]
  have hc:((i:Int)+1)=((i+1:Nat):Int):=by push_cast;rfl
  refine rwG (hi1 ..) ?_;refine rwG (hi2 ..) ?_
  refine wpAny_bind (he' _ _ ?_)
  wp_walk
  refine rwG (hc ..) ?_
  exact ⟨plainId_quiet MeetsSeq3.plain_eq_loop _,codeAny_builtin MeetsSeq3.entry_eq_loop (by
   refine rwG (Around.under_plainId MeetsSeq3.plain_eq_loop _ ..) ?_
   exact nx)⟩
theorem eqT_list {l b:Addr}{items items2:List Value}{n n2:Nat}{Q:Value→Shared→Prop}(hl:s.heap.get? l=some (Internal.seqObj "list" items n))(hb:s.heap.get? b=some (Internal.seqObj "list" items2 n2))(hu:A.units<cLine)
  (hsz:items.length=items2.length) (he: ∀p∈items.zip items2,EqT prog w A.in1 s p.1 p.2) (h:Q (.bool true) s):wpAny (model prog w) A (compareOp .Eq (.ref l) (.ref b)) Q E s:=by
 refine wpAny_richCompare_same_room (op:= .Eq) (T:= "list") ⟨_,hl,rfl⟩ ⟨_,hb,rfl⟩ PySem.F.slot_list_eq ?_ hu
 refine wpAny_call (codeAny_call_builtin PySem.F.slot_list_eq.plain PySem.F.entry_list_eq (PySem.F.slot_list_eq.check _ _ _ _ _ _ _ _ ⟨_,hl,rfl⟩ (PySem.F.args_list_eq_2 _ _) ?_))
 obtain ⟨hp,g,d,tk,os⟩:=s
 have f3:=AutoSeq1.sub_list_list
 have hne: ¬(items.toArray.size !=items2.toArray.size)=true:=by simp [hsz]
 wp_walk using wpAny_loadPart' hl,wpAny_loadPart' hb
 refine ⟨plainId_quiet MeetsSeq3.plain_eq_loop _,codeAny_builtin MeetsSeq3.entry_eq_loop ?_⟩
 refine rwG (Around.under_plainId MeetsSeq3.plain_eq_loop _ ..) ?_
 refine eqT_loop (A:=A) (R:=wants (fun v s'=>v≠ .notImplemented∧Q v s') E) hl hb hsz he ?_ _ 0 rfl
 exact (show Value.bool true≠Value.notImplemented∧Q (.bool true) _ from ⟨fun x=>(nomatch x),h⟩)
theorem neT_list {l b:Addr}{items items2:List Value}{n n2:Nat}{Q:Value→Shared→Prop}(hl:s.heap.get? l=some (Internal.seqObj "list" items n))(hb:s.heap.get? b=some (Internal.seqObj "list" items2 n2))(hu:A.units<cLine)
  (hsz:items.length=items2.length) (he: ∀p∈items.zip items2,EqT prog w A.in1 s p.1 p.2) (h:Q (.bool false) s):wpAny (model prog w) A (compareOp .NotEq (.ref l) (.ref b)) Q E s:=by
 refine wpAny_richCompare_same_room (op:= .NotEq) (T:= "list") ⟨_,hl,rfl⟩ ⟨_,hb,rfl⟩ PySem.F.slot_list_ne ?_ hu
 refine wpAny_call (codeAny_call_builtin PySem.F.slot_list_ne.plain PySem.F.entry_list_ne (PySem.F.slot_list_ne.check _ _ _ _ _ _ _ _ ⟨_,hl,rfl⟩ (PySem.F.args_list_ne_2 _ _) ?_))
 obtain ⟨hp,g,d,tk,os⟩:=s
 have f3:=AutoSeq1.sub_list_list
 have hne: ¬(items.toArray.size !=items2.toArray.size)=true:=by simp [hsz]
 wp_walk using wpAny_loadPart' hl,wpAny_loadPart' hb
 refine ⟨plainId_quiet MeetsSeq3.plain_eq_loop _,codeAny_builtin MeetsSeq3.entry_eq_loop ?_⟩
 refine rwG (Around.under_plainId MeetsSeq3.plain_eq_loop _ ..) ?_
 refine neT_loop (A:=A) (R:=wants (fun v s'=>v≠ .notImplemented∧Q v s') E) hl hb hsz he ?_ _ 0 rfl
 exact (show Value.bool false≠Value.notImplemented∧Q (.bool false) _ from ⟨fun x=>(nomatch x),h⟩)
end
noncomputable abbrev Font :=Int×List (Str×List UInt8)
noncomputable abbrev tabA (t:List (Str×List UInt8)):List (Str×AVal):=t.map fun p=>(p.1,.bytes p.2)
noncomputable abbrev fontA (f:Font):AVal:= .tup [.int f.1,.dS (tabA f.2)]
structure FEq (f g:Font):Prop where
 ver:f.1=g.1
 len:f.2.length=g.2.length
 nf:(f.2.map (·.1)).Nodup
 ng:(g.2.map (·.1)).Nodup
 val: ∀p∈f.2,at' g.2 p.1=some p.2
inductive FEqs :List Font→List Font→Prop where
 |nil:FEqs [] []
 |cons {f g:Font}{fs gs:List Font}(h:FEq f g) (hs:FEqs fs gs):FEqs (f::fs) (g::gs)
theorem FEqs.length_eq {fs gs:List Font}(h:FEqs fs gs):fs.length=gs.length:=by
 induction h with
 |nil=>rfl
 |cons h hs ih=>simp [ih]
theorem units_in1 (A:Around):A.in1.units≤A.units+4:=by
 show A.units+_≤A.units+4
 exact Nat.add_le_add_left (by decide) _
section
variable {G:Gl}{C:Cx}{lv:List (Option AVal)}{σ:Own}{x:Prop}{K:Kept}
theorem at_cons {κ α:Type} [DecidableEq κ] (p:κ×α)(r:List (κ×α))(k:κ):at' (p::r) k=if p.1=k then some p.2 else at' r k:=by
 unfold at'
 by_cases e:p.1=k<;>simp [e]
theorem at_tabA (t:List (Str×List UInt8))(k:Str):at' (tabA t) k=(at' t k).map .bytes:=by
 induction t with
 |nil=>rfl
 |cons p r ih=>
  rw [show tabA (p::r)=(p.1,AVal.bytes p.2)::tabA r from rfl,at_cons,at_cons,ih]
  by_cases e:p.1=k<;>simp [e]
theorem at_tab {t:List (Str×List UInt8)}{k:Str}{b:List UInt8}(h:at' t k=some b):at' (tabA t) k=some (.bytes b):=by rw [at_tabA,h];rfl
theorem tab_keys (t:List (Str×List UInt8)):(tabA t).map (·.1)=t.map (·.1):=by simp [tabA]
theorem prel_hits {A:Around}{s:Shared}{cb:List (Str×Value)}{g:List (Str×List UInt8)}(pb:PRel G.w.params K (tabA g) cb){f:List (Str×List UInt8)}{ca:List (Str×Value)}(h:PRel G.w.params K (tabA f) ca)(hv: ∀p∈f,at' g p.1=some p.2):KeqHits A s cb ca true:=by
 induction f generalizing ca with
 |nil=>cases h;exact .nil
 |cons p r ih=>
  have hp:=at_tab (hv p (.head _))
  rcases pb.at p.1 with ⟨e,_⟩|⟨v',cv,e1,e2,rr⟩
  ·rw [hp] at e;cases e
  ·rw [hp] at e1
   cases e1
   cases h with
   |cons h hs=>
    have:=ih hs fun q hq=>hv q (.tail _ hq)
    refine h.bytesE fun _=>?_
    revert e2
    refine rr.bytesE fun _ e2=>?_
    refine KeqHits.hit (e:=true) e2 (fun prog w E Q hq=>?_) this
    exact eqBool_bytes (by rw [decide_eq_true rfl];exact hq)
theorem fonts_eqT {A:Around}{s:Shared}(hK: ∀a o,K a o→s.heap.get? a=some o)(hu:A.units+16<cLine){f g:Font}(h:FEq f g){cv cw:Value}(r1:VRel G.w.params K (fontA f) cv)(r2:VRel G.w.params K (fontA g) cw):EqT G.prog G.w A s cv cw:=by
 refine r1.tupE fun _ _ _ hk1 hv1=>?_
 refine r2.tupE fun _ _ _ hk2 hv2=>?_
 have hk1:=hK _ _ hk1
 have hk2:=hK _ _ hk2
 revert hk1 hk2
 refine hv1.twoE fun _ _ a1 a2=>hv2.twoE fun _ _ c1 c2=>a1.intE fun _=>c1.intE fun _=>a2.dSE fun _ _ _ hka hra hsa=>c2.dSE fun _ _ _ hkb hrb hsb hk1 hk2=>?_
 have u1:=units_in1 A
 have u2:=units_in1 A.in1
 refine EqT.refs fun _ E Q hq=>eqT_tuple hk1 hk2 (by exact Nat.lt_of_add_right_lt hu) rfl (fun p hp=>?_) hq
 simp only [List.zip_cons_cons,List.zip_nil_right,List.mem_cons,List.not_mem_nil,or_false] at hp
 rcases hp with rfl|rfl
 ·dsimp only
  rw [h.ver]
  exact EqT.int _ _ _
 ·dsimp only
  refine hideG fun M kM=>?_
  obtain ⟨cka,hda,pa⟩:=hra.dictOf (hK _ _ hka) (by rw [tab_keys];exact h.nf)
  obtain ⟨ckb,hdb,pb⟩:=hrb.dictOf (hK _ _ hkb) (by rw [tab_keys];exact h.ng)
  refine kM ?_
  clear kM
  have la:cka.length=f.2.length:=by simpa using congrArg List.length pa.keys
  have lb:ckb.length=g.2.length:=by simpa using congrArg List.length pb.keys
  refine EqT.refs fun _ E Q hq=>keq_eq (r:=true) (beq_eq_false_iff_ne.mpr hsa) (beq_eq_false_iff_ne.mpr hsb) hda hdb (by lia) (fun _=>prel_hits pb pa h.val) ?_
  rw [la,lb,h.len]
  simpa using hq
theorem fonts_zip {A:Around}{s:Shared}(hK: ∀a o,K a o→s.heap.get? a=some o)(hu:A.units+16<cLine){fs gs:List Font}{cvs cws:List Value}(h:FEqs fs gs)(a:VRels G.w.params K (fs.map fontA) cvs)(b:VRels G.w.params K (gs.map fontA) cws): ∀p∈cvs.zip cws,EqT G.prog G.w A s p.1 p.2:=by
 induction h generalizing cvs cws with
 |nil=>
  refine a.nilE ?_
  exact fun _ hp=>nomatch hp
 |cons h hs ih=>
  refine a.consE fun _ _ a as=>b.consE fun _ _ b bs p hp=>?_
  rw [List.zip_cons_cons] at hp
  rcases List.mem_cons.mp hp with rfl|hp
  ·exact fonts_eqT hK hu h a b
  ·exact ih as bs p hp
theorem Cmp.eqFonts {fs gs:List Font}{Q:Bool→Own→Prop}(h:FEqs fs gs)(q:Q true σ):Cmp G C lv σ .Eq (.lst (fs.map fontA)) (.lst (gs.map fontA)) Q x:=by
 intro K J m own s ca cb S I O ra rb
 have hu:=S.units
 have hin:=units_in1 C.A
 refine ra.lstE fun _ _ _ hk1 hv1=>?_
 refine rb.lstE fun _ _ _ hk2 hv2=>?_
 refine eqT_list (I.k _ _ hk1) (I.k _ _ hk2) (by lia) ?_ (fonts_zip I.k (by lia) h hv1 hv2) (.same I O rfl q)
 rw [hv1.length,hv2.length,List.length_map,List.length_map]
 exact h.length_eq
theorem Cmp.neFonts {fs gs:List Font}{Q:Bool→Own→Prop}(h:FEqs fs gs)(q:Q false σ):Cmp G C lv σ .NotEq (.lst (fs.map fontA)) (.lst (gs.map fontA)) Q x:=by
 intro K J m own s ca cb S I O ra rb
 have hu:=S.units
 have hin:=units_in1 C.A
 refine ra.lstE fun _ _ _ hk1 hv1=>?_
 refine rb.lstE fun _ _ _ hk2 hv2=>?_
 refine neT_list (I.k _ _ hk1) (I.k _ _ hk2) (by lia) ?_ (fonts_zip I.k (by lia) h hv1 hv2) (.same I O rfl q)
 rw [hv1.length,hv2.length,List.length_map,List.length_map]
 exact h.length_eq
end
section
variable {G:Gl}{C:Cx}{lv:List (Option AVal)}{σ:Own}{x:Prop}
section
variable {Q:Bool→Own→Prop}
theorem Cmp.notInO {a:Addr}{j:Nat}{ns:List Int}{k:Int}(hj:σ[j]?=some (a,.list (ns.map .int)))(h:Q (!(ns.any (· ==k))) σ):Cmp G C lv σ .NotIn (.int k) (.ref a) Q x:=by
 intro K J m own s ca cb S I O ra rb
 refine ra.intE fun _=>rb.refE ?_
 have O':=O
 revert I O
 refine O'.listE hj fun l1 l2 _ _ hv _ I O=>?_
 exact notin_list_ints (seq_list (I.mem (List.mem_singleton_self _))) hv.ints (.same I O rfl h)
theorem Cmp.notInT {ns:List Int}{k:Int}(h:Q (!(ns.any (· ==k))) σ):Cmp G C lv σ .NotIn (.int k) (.tup (ns.map .int)) Q x:=by
 intro K J m own s ca cb S I O ra rb
 refine ra.intE fun _=>?_
 refine rb.tupE fun _ cvs n hk hv=>?_
 exact notin_tuple_ints (items:=cvs.toArray) ⟨_,I.k _ _ hk,rfl,_,rfl⟩ (by simpa using hv.ints) (.same I O rfl h)
theorem Cmp.eqInts {ns ms:List Int}(h:Q (decide (ns=ms)) σ):Cmp G C lv σ .Eq (.lst (ns.map .int)) (.lst (ms.map .int)) Q x:=by
 intro K J m own s ca cb S I O ra rb
 have hu:=S.units
 refine ra.lstE fun _ _ _ hk hv=>?_
 refine rb.lstE fun _ _ _ hk2 hv2=>?_
 exact ke_eq_ints (seq_list (I.k _ _ hk)) (seq_list (I.k _ _ hk2)) hv.ints hv2.ints (by lia) (.same I O rfl h)
theorem Cmp.neInts {ns ms:List Int}(h:Q (!decide (ns=ms)) σ):Cmp G C lv σ .NotEq (.lst (ns.map .int)) (.lst (ms.map .int)) Q x:=by
 intro K J m own s ca cb S I O ra rb
 have hu:=S.units
 refine ra.lstE fun _ _ _ hk hv=>?_
 refine rb.lstE fun _ _ _ hk2 hv2=>?_
 exact ke_ne_ints (seq_list (I.k _ _ hk)) (seq_list (I.k _ _ hk2)) hv.ints hv2.ints (by lia) (.same I O rfl h)
theorem Cmp.neBool {a b:Bool}(h:Q (a !=b) σ):Cmp G C lv σ .NotEq (.bool a) (.bool b) Q x:=by
 intro K J m own s ca cb S I O ra rb
 refine ra.boolE (rb.boolE ?_)
 exact SeqAt.RcNeAt.bool_bool a b _ _ _ _ (.same I O rfl h)
end
theorem Tst.chain {l r₁ r₂:Expr}{op₁ op₂:CmpOp}{pos:Pos}{Q:Bool→Own→Prop}
  (h:Ev G C lv σ l (fun a σ₁=>Ev G C lv σ₁ r₁ (fun b σ₂=>Cmp G C lv σ₂ op₁ a b (fun t σ₃=>if t then Ev G C lv σ₃ r₂ (fun c σ₄=>Cmp G C lv σ₄ op₂ b c Q x) x else Q false σ₃) x) x) x)
  (hm:lastMarks [op₁,op₂] [r₁,r₂]=false:=by with_unfolding_all rfl):Tst G C lv σ (.Compare l [op₁,op₂] [r₁,r₂] pos) Q x:=fun K J m own s S I O=>by
 refine isTrue_chain (h.seq S I O (fun K₁ own₁ a σ₁ h₁ tk₁ ca k₁ I₁ O₁ ra S₁ q₁=>?_) fun _ _ f=>f) hm
 refine test_link (q₁.seq (s:={s with heap:=h₁,toks:=tk₁}) S₁ I₁ O₁ (fun K₂ own₂ b σ₂ h₂ tk₂ cb k₂ I₂ O₂ rb S₂ q₂=>?_) fun ev s' f=>⟨f.1,f.2.start rfl⟩)
 refine wpAny_mono (q₂ K₂ J m own₂ {s with heap:=h₂,toks:=tk₂} ca cb S₂ I₂ O₂ (ra.mono k₂) rb) (fun cv s' p=>?_) fun ev s' f=>⟨f.1,f.2.start rfl⟩
 obtain ⟨K₃,own₃,t,σ₃,h₃,tk₃,rfl,k₃,I₃,O₃,rfl,q₃⟩:=p
 have S₃:=S₂.mono k₃
 refine wpAny_truthy_bool ?_
 cases t
 ·exact ⟨K₃,own₃,false,σ₃,h₃,tk₃,rfl,fun a o z=>k₃ _ _ (k₂ _ _ (k₁ _ _ z)),I₃,O₃,rfl,q₃⟩
 ·rw [if_pos rfl] at q₃⊢
  refine test_last (q₃.seq (s:={s with heap:=h₃,toks:=tk₃}) S₃ I₃ O₃ (fun K₄ own₄ c σ₄ h₄ tk₄ cc k₄ I₄ O₄ rc S₄ q₄=>?_) fun ev s' f=>⟨f.1,f.2.start rfl⟩)
  refine wpAny_mono (q₄ K₄ J m own₄ {s with heap:=h₄,toks:=tk₄} cb cc S₄ I₄ O₄ (rb.mono fun a o z=>k₄ _ _ (k₃ _ _ z)) rc) (fun cv s' p=>?_) fun ev s' f=>⟨f.1,f.2.start rfl⟩
  obtain ⟨K₅,own₅,t,σ₅,h₅,tk₅,rfl,k₅,I₅,O₅,rfl,q₅⟩:=p
  exact wpAny_truthy_bool ⟨K₅,own₅,t,σ₅,h₅,tk₅,rfl,fun a o z=>k₅ _ _ (k₄ _ _ (k₃ _ _ (k₂ _ _ (k₁ _ _ z)))),I₅,O₅,rfl,q₅⟩
section
variable {Q:AVal→Own→Prop}
theorem Meth.getB {a:Addr}{kvs:List (List UInt8×AVal)}{j:Nat}(hj:σ[j]?=some (a,.dB kvs)):Meth G C lv σ (.ref a) "get" (.builtin "dict.get"):=by
 intro K J m own s ca pl Q E S I O r h
 revert h
 refine r.refE fun h=>?_
 have O':=O
 revert I O
 refine O'.dBE hj fun l1 l2 _ _ hr hs _ I O=>?_
 exact getMethod_builtin (T:= "dict") ⟨_,I.mem (List.mem_singleton_self _),rfl⟩ PySem.F.plainAttrs_dict PySem.F.slot_dict_get PySem.F.type_dict_get (fun a e=>by cases e;exact ⟨_,I.mem (List.mem_singleton_self _),rfl⟩) h
theorem CallP.getB {a:Addr}{kvs:List (List UInt8×AVal)}{j:Nat}{k:List UInt8}{d:AVal}(hj:σ[j]?=some (a,.dB kvs))(hn:(kvs.map (·.1)).Nodup)(h:Q ((at' kvs k).getD d) σ):CallP G C lv σ (.builtin "dict.get") [.ref a,.bytes k,d] Q x:=by
 intro K J m own s cvs S I O r
 refine r.threeE fun _ _ cd r1 r2 r3=>?_
 refine r1.refE ?_
 refine r2.bytesE fun t=>?_
 have rd:=r3
 have O':=O
 revert I O
 refine O'.dBE hj fun l1 l2 _ _ hr hs _ I O=>?_
 obtain ⟨cks,hd,p⟩:=hr.dictOf (I.mem (List.mem_singleton_self _)) hn
 refine call_meetsIn PySem.F.slot_dict_get hd.typeIs PySem.F.entry_dict_get (PySem.F.args_dict_get_3 _ _ _) (meets_dict_get_default (knB G) _ (isB k t) (beq_eq_false_iff_ne.mpr hs) cd) ⟨_,hd.mapOf,?_⟩
 rcases p.at k with ⟨e1,e2⟩|⟨v,cv,e1,e2,rr⟩
 ·rw [e1] at h
  rw [e2]
  exact ⟨K,_,_,σ,s.heap,_,rfl,fun _ _ e=>e,I,O,rd,h⟩
 ·rw [e1] at h
  rw [e2]
  exact ⟨K,_,_,σ,s.heap,_,rfl,fun _ _ e=>e,I,O,rr,h⟩
theorem Ev.dict1 {y:Str}{b:List UInt8}{k1 k2:Nat}{p1 p2 pos:Pos}(h:Q (.dS [(y,.bytes b)]) σ):Ev G C lv σ (.Dict [some (.Constant (.str y) k1 p1)] [.Constant (.bytes b) k2 p2] pos) Q x:=fun K J m own s S I O=>by
 refine wpAny_Dict_walk (knd:=knS G) (by rfl) rfl (by simp) (by simp) ?_
 refine pairTrees_cons_walk (Constant_str (Constant_bytes (pairTrees_nil_walk ?_)))
 have n0:=size_none s.heap
 refine ⟨[(y,.bytes b.toArray _)],⟨isS y _,rfl,trivial⟩,Heap.DictOf.new s.heap,fun h' hd hs=>?_⟩
 have e:merged [] [(y,Value.bytes b.toArray (s.toks+1))]= [(y,Value.bytes b.toArray (s.toks+1))]:=merged_nil_of_nodup _ (by simp)
 rw [e] at hd
 refine hideG fun M kM=>?_
 obtain ⟨es,n,e',r'⟩:=ERelS.of_dictOf (G:=G) (K:=K) (kvs:= [(y,.bytes b)]) (.cons (.bytes b _) .nil) hd
 refine kM ?_
 clear kM
 have kp: ∀b' o,s.heap.get? b'=some o→h'.get? b'=some o:=fun b' o z=>(hs.2 b' (Nat.ne_of_lt (Heap.lt_size z))).trans (Heap.get?_push_of_some _ z)
 have g:Grow C.L m s.heap h':=⟨fun b' o _ z=>kp b' o z,I.ns.keeps kp⟩
 have I2:=I.add g n0 e'
 exact ⟨_,own,_,σ,h',_,rfl,Kept.sub,I2,O.mono Kept.sub,.dS Kept.new (r'.mono Kept.sub) (sys_lt S I),h⟩
end
end
theorem dp_miss :typeLookup (.type "list") "keys"=pure none:=by rw [typeLookup_type,builtinLookup_eq_fast];kernel_rfl
theorem dp_entry :entryFor table "dict.update.loop"=some Builtin.«dict.update.loop»:=entryFor_of_tree (by kernel_rfl)
theorem dp_plain :plainId "dict.update.loop"=true:=by decide+kernel
section
variable {prog:Program}{w:World}{A:Around}{E:Value→Shared→Prop}{s:Shared}
theorem keys_miss {a:Addr}{xs:List Value}{k:Nat}{Q:Option Value→Shared→Prop}(hx:s.heap.get? a=some (Internal.seqObj "list" xs k))(hA:A.handled=none)
  (h: ∀h' tk,(∀b o,s.heap.get? b=some o→h'.get? b=some o)→Q none {s with heap:=h',toks:=tk}):wpAny (model prog w) A (getAttr? (.ref a) "keys") Q E s:=by
 obtain ⟨hp,g,d,tk,os⟩:=s
 have hT: ∀tk',(⟨hp,g,d,tk',os⟩:Shared).TypeIs (.ref a) "list":=fun _=>⟨_,hx,rfl⟩
 have f1:=sub_AttributeError
 have f3:=F.slot_list_getattribute.lookup
 have f4:=F.slot_list_getattribute.bind (.ref a)
 have f5:=am_list_getattr_none
 unfold getAttr? getAttrBy? getAttrBy
 repeat (any_goals (first|assumption|exact hT _|((with_reducible show wpAny _ _ (call (Value.builtin "list.__getattribute__") _ _) _ _ _);refine call_meets F.slot_list_getattribute (hT _) am_entry_list_getattribute (F.args_list_getattribute_2 _ _) (meets_getattribute_miss_list a xs.toArray k #[] "keys" _ dp_miss (by decide)) ⟨hx,hA,fun h' tk' e hx'=>?_⟩)|wp_step))
 obtain ⟨t',u',he⟩:=hx'.there
 have kp:=hx'.keeps
 show wpAny _ _ (getattributeRaised _ _ _ _ _ _ _) _ _ _
 unfold getattributeRaised
 repeat (any_goals (first|assumption|wp_step))
 exact h _ _ kp
end
inductive PairsAre (h:Heap):List Value→List (Str×Value)→Prop where
 |nil:PairsAre h [] []
 |cons {a:Addr}{k:Str}{t:Tok}{v:Value}{n:Nat}{vs:List Value}{kvs:List (Str×Value)}(e:h.get? a=some (Internal.seqObj "tuple" [.str k t,v] n)) (r:PairsAre h vs kvs):PairsAre h (.ref a::vs) ((k,v)::kvs)
theorem PairsAre.get {h:Heap}: ∀{vs:List Value}{kvs:List (Str×Value)},PairsAre h vs kvs→ ∀{i:Nat}{v:Value},vs[i]?=some v→ ∃a k t u n,v= .ref a∧kvs[i]?=some (k,u)∧h.get? a=some (Internal.seqObj "tuple" [.str k t,u] n)
 |_,_,.nil,i,v,e=>by simp at e
 |_,_,.cons he r,0,v,e=>by
  simp at e
  exact ⟨_,_,_,_,_,e.symm,rfl,he⟩
 |_,_,.cons he r,i+1,v,e=>by simpa using r.get (i:=i) (by simpa using e)
theorem PairsAre.length {h:Heap}{vs:List Value}{kvs:List (Str×Value)}(p:PairsAre h vs kvs):vs.length=kvs.length:=by
 induction p with
 |nil=>rfl
 |cons e r ih=>simp [ih]
section
variable {prog:Program}{w:World}{A:Around}{E:Value→Shared→Prop}{s:Shared}
theorem dp_loop {d It l:Addr}{vs:List Value}{kvs:List (Str×Value)}{R:Result→Shared→Prop}{h₀:Heap}(hh:A.handled=none)(hne:l≠It)(hdI:d≠It)(hdl:d≠l)(hz:kvs.length≤1000)
  (hR: ∀h' tk,h'.DictOf (PySem.strKind prog w) d (kvs.foldl (fun m p=>stored m p.1 p.2) [])→(∀b o,b≠d→b≠It→h₀.get? b=some o→h'.get? b=some o)→R (.ok (.ret .none)) {s with heap:=h',toks:=tk}) (n:Nat):
  ∀(i:Nat) (h:Heap) (tk:Nat),kvs.length - i=n→i≤kvs.length→(∀b o,b≠d→b≠It→h₀.get? b=some o→h.get? b=some o)→(∀b o,h.get? b=some o→True)→PairsAre h₀ vs kvs→(∀v∈vs,v≠ .ref d∧v≠ .ref It)→h₀.IsList l vs.toArray→h.IsListIter It l i→
   h.DictOf (PySem.strKind prog w) d ((kvs.take i).foldl (fun m p=>stored m p.1 p.2) [])→
   wpAny (model prog w) A.in1 (Builtin.«dict.update.loop» ⟨[.ref d,.ref It,rawInt i,.none],[]⟩) (fun fin s'=>match fin with| .done f=>R (.ok f) s'| .again c'=>c'.quiet=true∧codeAny (model prog w) A c' R s') (fun e s'=>R (.error e) s') {s with heap:=h,toks:=tk}:=by
 induction n with
 |zero=>
  intro i h tk hn hi hk _ hp hv hl hit hd
  obtain rfl:i=kvs.length:=by lia
  rw [List.take_length] at hd
  have hvl:=hp.length
  have hl':h.IsList l vs.toArray:=hl.at fun o e=>hk _ _ (Ne.symm hdl) hne e
  have W:=Walks.list (prog:=prog) (w:=w) (A:=A.in1) hh It l hne vs.toArray
  unfold Builtin.«dict.update.loop»
  refine wpAny_bind (W.done {s with heap:=h,toks:=tk} _ _ (by rw [List.size_toArray,hvl];exact ⟨hit,hl'⟩) fun h' tk' hk'=>?_)
  have kp: ∀b o,b≠It→h.get? b=some o→h'.get? b=some o:=fun b o n e=>hk' b o (by simpa using n) e
  refine wpAny_bind (wpAny_pure (wpAny_pure ?_))
  exact hR h' tk' (let ⟨o,es,ep,e,r⟩:=hd;⟨o,es,ep,kp _ _ hdI e,r⟩) fun b o n1 n2 e=>kp b o n2 (hk b o n1 n2 e)
 |succ n ih=>
  intro i h tk hn hi hk _ hp hv hl hit hd
  have hvl:=hp.length
  have hl':h.IsList l vs.toArray:=hl.at fun o e=>hk _ _ (Ne.symm hdl) hne e
  have W:=Walks.list (prog:=prog) (w:=w) (A:=A.in1) hh It l hne vs.toArray
  unfold Builtin.«dict.update.loop»
  refine wpAny_bind (W.item i {s with heap:=h,toks:=tk} _ _ (by rw [List.size_toArray];lia) ⟨hit,hl'⟩ fun v h' tk' hP st hk'=>?_)
  have kp: ∀b o,b≠It→h.get? b=some o→h'.get? b=some o:=fun b o n e=>hk' b o (by simpa using n) e
  have hP':vs[i]?=some v:=by simpa using hP
  obtain ⟨a,k,t,u,nn,rfl,hkv,ho⟩:=hp.get hP'
  have hva:=hv _ (List.mem_of_getElem? hP')
  have ho':h'.get? a=some (Internal.seqObj "tuple" [.str k t,u] nn):=kp _ _ (fun q=>hva.2 (by rw [q])) (hk _ _ (fun q=>hva.1 (by rw [q])) (fun q=>hva.2 (by rw [q])) ho)
  refine wpAny_bind (wpAny_holding ?_)
  refine wpAny_bind (wpAny_tryCatch ?_)
  unfold Builtin.Dict.pairItems
  refine wpAny_bind (wpAny_typeOf (T:= "tuple") ⟨_,ho',rfl⟩ ?_)
  refine wp_pos (by decide) ?_
  refine wpAny_bind (wpAny_seqItems ho' rfl ?_)
  refine wpAny_pure ?_
  dsimp only
  have hd':h'.DictOf (PySem.strKind prog w) d ((kvs.take i).foldl (fun m p=>stored m p.1 p.2) []):=let ⟨o,es,ep,e,r⟩:=hd;⟨o,es,ep,kp _ _ hdI e,r⟩
  have hdlen:((kvs.take i).foldl (fun m p=>stored m p.1 p.2) []).length≤1000:=by
   have key: ∀(l acc:List (Str×Value)),(l.foldl (fun m p=>stored m p.1 p.2) acc).length≤acc.length+l.length:=by
    intro l
    induction l with
    |nil=>intro acc;simp
    |cons p r ih=>
     intro acc
     refine rwG (List.foldl_cons ..) ?_
     have h1:=ih (stored acc p.1 p.2)
     have h2:(stored acc p.1 p.2).length≤acc.length+1:=by
      unfold stored
      split<;>simp
     refine rwG (List.length_cons ..) ?_
     lia
   have:=key (kvs.take i) []
   have h3:(kvs.take i).length≤kvs.length:=by rw [List.length_take];exact Nat.min_le_right i kvs.length
   simp only [List.length_nil] at this
   lia
  refine wpAny_holding (wpAny_dictSet_pairs (knd:=PySem.strKind prog w) (k:=k) (hsz:=by rw [sizeLine_eq];lia) (by simp [PySem.strKind,Value.isStrOf]) hd' fun h2 hd2 hs2=>?_)
  refine wpAny_pure ⟨plainId_quiet dp_plain _,codeAny_builtin dp_entry ?_⟩
  refine rwG (Around.under_plainId dp_plain _ ..) ?_
  have hc:((i:Int)+1)=((i+1:Nat):Int):=by push_cast;rfl
  refine rwG (hc ..) ?_
  have e2:(kvs.take (i+1)).foldl (fun m p=>stored m p.1 p.2) []=stored ((kvs.take i).foldl (fun m p=>stored m p.1 p.2) []) k u:=by
   rw [List.take_add_one,hkv,Option.toList_some,List.foldl_append,List.foldl_cons,List.foldl_nil]
  refine ih (i+1) h2 _ (by exact subP hn) (by lia) (fun b o n1 n2 e=>(hs2.2 b n1).trans (kp b o n2 (hk b o n1 n2 e))) (fun _ _ _=>trivial) hp hv hl ?_ (by rw [e2];exact hd2)
  exact st.1.at fun o e=>(hs2.2 It (Ne.symm hdI)).trans e
end
section
variable {prog:Program}{w:World}{A:Around}{E:Value→Shared→Prop}{s:Shared}
theorem dp_call {l:Addr}{vs:List Value}{kvs:List (Str×Value)}{n:Nat}{Q:Value→Shared→Prop}(hA:A.handled=none)(hl:s.heap.get? l=some (Internal.seqObj "list" vs n))(hp:PairsAre s.heap vs kvs)(hz:kvs.length≤1000)
  (h: ∀h' tk,h'.DictOf (PySem.strKind prog w) s.heap.objs.size (kvs.foldl (fun m p=>stored m p.1 p.2) [])→(∀b o,s.heap.get? b=some o→h'.get? b=some o)→Q (.ref s.heap.objs.size) {s with heap:=h',toks:=tk}):
  wpAny (model prog w) A (call (.type "dict") [.ref l]) Q E s:=by
 refine callType_codes (Q₁:=fun obj s₁=>obj= .ref s.heap.objs.size∧s₁={s with heap:=s.heap.push {cls:= .type "dict",data:= .dict #[]}}) F.kt_called_dict (F.kt_typeCall_dict_1 _) F.entry_dict_init (kt_code_dict_new _ ⟨rfl,rfl⟩) ?_
 rintro obj s₁ ⟨rfl,rfl⟩
 have up: ∀b o,s.heap.get? b=some o→(s.heap.push {cls:= .type "dict",data:= .dict #[]}).get? b=some o:=fun b o e=>Heap.get?_push_of_some _ e
 have hnew:(s.heap.push {cls:= .type "dict",data:= .dict #[]}).DictOf (PySem.strKind prog w) s.heap.objs.size []:=Heap.DictOf.new s.heap
 have hl':=up _ _ hl
 have hlt:=Heap.lt_size hl
 refine ⟨hnew.typeIs,F.args_dict_init_2 _ _,?_⟩
 unfold Builtin.«dict.__init__»
 refine wpAny_bind ?_
 unfold Builtin.Dict.selfAndRest
 refine wpAny_bind (wpAny_notOrdered_dict hnew.typeIs ?_)
 show wpAny _ _ (pure (s.heap.objs.size,[Value.ref l])) _ _ _
 refine wpAny_pure ?_
 show wpAny _ _ (Builtin.Dict.updateFrom "dict.__init__" s.heap.objs.size (.ref l) [] .none) _ _ _
 unfold Builtin.Dict.updateFrom
 refine wpAny_bind (wpAny_typeOf (T:= "list") ⟨_,hl',rfl⟩ ?_)
 refine wp_pos (by decide) ?_
 refine wpAny_bind (keys_miss hl' hA fun h2 tk2 k2=>?_)
 refine wp_pos (show (Option.none:Option Value).isNone=true from rfl) ?_
 refine wpAny_bind (wpAny_rule ?_)
 have hl2:=k2 _ _ hl'
 have hd2:h2.DictOf (PySem.strKind prog w) s.heap.objs.size []:=hnew.keep k2
 have hlt2: ∀b o,(s.heap.push {cls:= .type "dict",data:= .dict #[]}).get? b=some o→b<h2.objs.size:=fun b o e=>Heap.lt_size (k2 _ _ e)
 refine wpAny_bind (wpAny_pyIter_list (s:={s with heap:=h2,toks:=tk2}) (seq_list hl2) ?_)
 refine wpAny_pure ⟨plainId_quiet dp_plain _,codeAny_builtin dp_entry ?_⟩
 rw [Around.under_plainId dp_plain _]
 have hs2:s.heap.objs.size<h2.objs.size:=by
  obtain ⟨o,_,_,e,_⟩:=hd2
  exact Heap.lt_size e
 have hvs: ∀v∈vs,∃b,v= .ref b∧b<s.heap.objs.size:=fun v hv=>by
  obtain ⟨i,hi,e⟩:=List.getElem_of_mem hv
  obtain ⟨b,k,t,u,nn,rfl,_,hb⟩:=hp.get (show vs[i]?=some v by rw [List.getElem?_eq_getElem hi,e])
  exact ⟨b,rfl,Heap.lt_size hb⟩
 refine dp_loop (A:=A.in1) (s:=s) (h₀:=s.heap) (kvs:=kvs) (vs:=vs) (l:=l) (d:=s.heap.objs.size) (It:=h2.objs.size) hA (Nat.ne_of_lt (Nat.lt_trans hlt hs2)) (Nat.ne_of_lt hs2) (Nat.ne_of_gt hlt) hz (fun h' tk hd' hk'=>⟨rfl,h h' tk hd' fun b o e=>hk' b o (Nat.ne_of_lt (Heap.lt_size e)) (Nat.ne_of_lt (Nat.lt_trans (Heap.lt_size e) hs2)) e⟩) kvs.length 0 _ tk2 rfl (Nat.zero_le _)
  (fun b o n1 n2 e=>Heap.get?_push_of_some _ (k2 _ _ (up _ _ e))) (fun _ _ _=>trivial) hp (fun v hv=>?_) (seq_list hl) ⟨_,Heap.get?_push_size _ rfl,rfl,rfl⟩ (hd2.push _)
 obtain ⟨b,rfl,hb⟩:=hvs v hv
 exact ⟨fun q=>by injection q with q;exact Nat.ne_of_lt hb q,fun q=>by injection q with q;exact Nat.ne_of_lt (Nat.lt_trans hb hs2) q⟩
end
section
variable {G:Gl}{C:Cx}{lv:List (Option AVal)}{σ:Own}{Q:AVal→Own→Prop}{x:Prop}
theorem pairs_rel {K:Kept}{h:Heap}(hK: ∀a o,K a o→h.get? a=some o){kvs:List (Str×AVal)}{cvs:List Value}(r:VRels G.w.params K (kvs.map fun p=> .tup [.str p.1,p.2]) cvs): ∃cks,PairsAre h cvs cks∧PRel G.w.params K kvs cks:=by
 induction kvs generalizing cvs with
 |nil=>exact r.nilE ⟨[],.nil,.nil⟩
 |cons p q ih=>
  refine r.consE fun _ _ a b=>a.tupE fun l cs n hk hv=>?_
  obtain ⟨cks,h1,h2⟩:=ih b
  have hk:=hK _ _ hk
  revert hk
  exact hv.twoE fun _ _ b c=>b.strE fun _ hk=>⟨_,.cons hk h1,.cons c h2⟩
theorem prel_put {K:Kept}{kvs:List (Str×AVal)}{cks:List (Str×Value)}(r:PRel G.w.params K kvs cks){acc:List (Str×AVal)}{cacc:List (Str×Value)}(h:PRel G.w.params K acc cacc):PRel G.w.params K (kvs.foldl (fun m p=>put m p.1 p.2) acc) (cks.foldl (fun m p=>stored m p.1 p.2) cacc):=by
 induction r generalizing acc cacc with
 |nil=>exact h
 |cons r _ ih=>exact ih (h.put r)
theorem CallP.dictP {kvs:List (Str×AVal)}(hz:kvs.length≤1000)(h:Q (.dS (kvs.foldl (fun m p=>put m p.1 p.2) [])) σ):CallP G C lv σ (.type "dict") [.lst (kvs.map fun p=> .tup [.str p.1,p.2])] Q x:=by
 intro K J m own s cvs S I O r
 refine r.oneE fun _ r1=>?_
 refine r1.lstE fun _ _ _ hk hv=>?_
 obtain ⟨cks,h1,h2⟩:=pairs_rel I.k hv
 have hl:cks.length=kvs.length:=by simpa using congrArg List.length h2.keys
 refine dp_call S.hh (I.k _ _ hk) h1 (by exact le_of_eq_of_le hl hz) fun h' tk hd kp=>?_
 obtain ⟨es,n,e',r'⟩:=ERelS.of_dictOf (G:=G) (K:=K) (prel_put h2 .nil) hd
 have g:Grow C.L m s.heap h':=⟨fun b o _ z=>kp b o z,I.ns.keeps kp⟩
 have I2:=I.add g (size_none _) e'
 exact ⟨_,own,_,σ,h',tk,rfl,Kept.sub,I2,O.mono Kept.sub,.dS Kept.new (r'.mono Kept.sub) (sys_lt S I),h⟩
end
theorem slot_bytes_join :Slot "bytes" "join" "bytes.join":= .of (owner:= "bytes") (n:= "join") (by rw [typeLookup_type,builtinLookup_eq_fast];kernel_rfl) (by decide+kernel) (by decide+kernel) (by decide+kernel)
 (by first|exact .inl (by decide+kernel)|exact .inr (by decide+kernel)) (by rw [isSubtype_type];kernel_rfl)
theorem type_bytes_join :typeOf (.builtin "bytes.join")=pure (.type "method_descriptor"):=by show builtinType _=_;rw [builtinType_eq_fast];kernel_rfl
theorem entry_bytes_join :entryFor table "bytes.join"=some Builtin.«bytes.join»:=entryFor_of_tree (by kernel_rfl)
theorem args_bytes_join (a b:Value):argsOk "bytes.join" ⟨[a,b],[]⟩:=by unfold argsOk;kernel_rfl
theorem by_buffer :typeLookup (.type "bytes") "__buffer__"=pure (some (.builtin "bytes.__buffer__")):=by rw [typeLookup_type,builtinLookup_eq_fast];kernel_rfl
theorem by_release :typeLookup (.type "bytes") "__release_buffer__"=pure none:=by rw [typeLookup_type,builtinLookup_eq_fast];kernel_rfl
theorem by_sub :isSubtype (.type "bytes") (.type "bytes")=pure true:=by rw [isSubtype_type];kernel_rfl
inductive BytesAre :List Value→List (List UInt8)→Prop where
 |nil:BytesAre [] []
 |cons (b:List UInt8) (t:Tok) {vs:List Value}{bs:List (List UInt8)}(h:BytesAre vs bs):BytesAre (.bytes b.toArray t::vs) (b::bs)
section
variable {prog:Program}{w:World}{A:Around}{E:Value→Shared→Prop}{s:Shared}
theorem slotIsOwn_b {b:Array UInt8}{t:Tok}{Q:Bool→Shared→Prop}(h:Q true s):wpAny (model prog w) A (Builtin.Bytes.slotIsOwn (.bytes b t) "__buffer__") Q E s:=by
 have hT:s.TypeIs (.bytes b t) "bytes":=rfl
 unfold Builtin.Bytes.slotIsOwn
 refine wpAny_bind (wpAny_specialOf hT by_buffer ?_)
 refine wp_neg (by decide+kernel) ?_
 have e:("bytes.__buffer__".dropRight ("__buffer__".length+1))= "bytes":=by decide+kernel
 rw [e]
 exact wpAny_isInstance hT by_sub h
theorem take_buffer {b:Array UInt8}{t:Tok}{Q:Option (Array UInt8×Option Value)→Shared→Prop}(h:Q (some (b,none)) s):wpAny (model prog w) A (Builtin.Bytes.takeBufferQuiet? "bytes.join" (.bytes b t) 0) Q E s:=by
 have hT:s.TypeIs (.bytes b t) "bytes":=rfl
 unfold Builtin.Bytes.takeBufferQuiet? Builtin.Bytes.takeBuffer?
 refine wpAny_bind (wpAny_attempt ?_)
 refine wpAny_bind (wpAny_specialOf hT by_buffer ?_)
 try dsimp only
 refine wpAny_bind (slotIsOwn_b ?_)
 refine wp_neg (by decide) ?_
 refine wpAny_bind (wpAny_specialOf hT by_buffer ?_)
 try dsimp only
 refine wpAny_bind ?_
 unfold Builtin.Bytes.buffer?
 refine wpAny_bind (wpAny_specialOf hT by_buffer ?_)
 try dsimp only
 refine wpAny_bind (slotIsOwn_b ?_)
 refine wp_neg (by decide) ?_
 refine wpAny_bind (wpAny_specialOf hT by_buffer ?_)
 refine wpAny_bind (wpAny_bind ?_)
 unfold Builtin.Bytes.slotIsOwn
 refine wpAny_bind (wpAny_specialOf hT by_release ?_)
 refine wpAny_pure (wpAny_pure ?_)
 refine wp_neg (by decide) ?_
 unfold Builtin.Bytes.payload Builtin.Bytes.payload?
 refine wpAny_bind (wpAny_bind (wpAny_pure (wpAny_pure ?_)))
 exact wpAny_pure (wpAny_pure (wpAny_pure h))
end
theorem BytesAre.get {vs:List Value}{bs:List (List UInt8)}(h:BytesAre vs bs)(i:Nat)(hi:i<bs.length): ∃t,vs[i]?=some (.bytes (bs.getD i []).toArray t):=by
 induction h generalizing i with
 |nil=>exact absurd hi (Nat.not_lt_zero _)
 |cons b t _ ih=>
  cases i with
  |zero=>exact ⟨t,rfl⟩
  |succ i=>exact ih i (Nat.lt_of_succ_lt_succ hi)
theorem BytesAre.one {vs:List Value}{bs:List (List UInt8)}(h:BytesAre vs bs)(h1:vs.length=1): ∃b u,vs= [.bytes b.toArray u]∧bs= [b]:=by
 cases h with
 |nil=>cases h1
 |cons b t r=>
  cases r with
  |nil=>exact ⟨_,_,rfl,rfl⟩
  |cons _ _ _=>cases h1
theorem BytesAre.off {vs:List Value}{bs:List (List UInt8)}(h:BytesAre vs bs): ∀v∈vs,v.onHeap=false:=by
 induction h with
 |nil=>exact fun _ h=>nomatch h
 |cons b t _ ih=>
  intro v hv
  rcases List.mem_cons.mp hv with rfl|hv
  ·rfl
  ·exact ih v hv
theorem any_heap (l:List Value)(hl: ∀v∈l,v.onHeap=false):(l.map fun v=>(v,(Option.none:Option Value))).any (fun x=>x.1.onHeap)=false:=by
 rw [List.any_eq_false]
 intro p hp
 obtain ⟨v,hv,rfl⟩:=List.mem_map.mp hp
 refine rwG (hl v hv ..) ?_
 exact Bool.false_ne_true
theorem sum_sizes (l:List (List UInt8))(k:Nat):((l.map List.toArray).toArray.foldl (fun x1 x2=>x1+x2.size) k)=k+l.flatten.length:=by
 induction l generalizing k with
 |nil=>simp
 |cons b r ih=>
  have:=ih (k+b.length)
  simp at this⊢
  lia
theorem joined_flat (l:List (List UInt8)):Builtin.Bytes.joined #[] (l.map List.toArray)=l.flatten.toArray:=by
 have key: ∀(l:List (List UInt8)) (k:Nat) (acc:Array UInt8),((l.map List.toArray).zipIdx k).foldl (fun out p=>(if p.2>0 then out++(#[]:Array UInt8) else out)++p.1) acc=acc++l.flatten.toArray:=by
  intro l
  induction l with
  |nil=>intro k acc;simp
  |cons b r ih=>
   intro k acc
   refine rwG (List.map_cons ..) ?_;refine rwG (List.zipIdx_cons ..) ?_;refine rwG (List.foldl_cons ..) ?_;refine rwG (ih ..) ?_
   by_cases hk:k>0<;>simp [hk]
 have:=key l 0 #[]
 rw [Array.empty_append] at this
 exact this
theorem let_all {prog:Program}{w:World}{A:Around}{E:Value→Shared→Prop}(l:List Value)(keep:List Value)(Q:Unit→Shared→Prop)(s':Shared)(q:Q () s'):wpAny (model prog w) A (Builtin.Bytes.joinLetGo (l.map fun v=>(v,Option.none)) keep) Q E s':=by
 induction l generalizing keep s' with
 |nil=>exact wpAny_pure q
 |cons v r ih=>
  refine rwG (List.map_cons ..) ?_
  unfold Builtin.Bytes.joinLetGo
  exact wpAny_bind (wpAny_letGo (ih _ _ q))
theorem BytesAre.len {vs:List Value}{bs:List (List UInt8)}(h:BytesAre vs bs):vs.length=bs.length:=by
 induction h with
 |nil=>rfl
 |cons b t h ih=>simp [ih]
theorem forIn_count {M:Model}{A:Around}{E:Value→Shared→Prop}{β:Type}{f:Nat→β→Sem (ForInStep β)}{acc:Nat→β}{s:Shared}{Q:β→Shared→Prop}{k:Nat}{z:β}(hz:acc k=z)
  (turn: ∀i,i<k→wpAny M A (f i (acc i)) (fun r s'=>r= .yield (acc (i+1))∧s'=s) E s) (fin:Q z s) (n:Nat) (i:Nat) (hi:i+n=k):wpAny M A (forIn (List.range' i n) (acc i) f) Q E s:=by
 induction n generalizing i with
 |zero=>cases hi;subst hz;exact wpAny_pure fin
 |succ n ih=>
  refine rwG (List.forIn_cons ..) ?_
  refine wpAny_bind (wpAny_mono (turn i (by lia)) ?_ fun _ _ h=>h)
  rintro r s' ⟨rfl,rfl⟩
  exact ih _ (by lia)
theorem take_one_more {α:Type}{l:List α}{i:Nat}{x:α}(h:l[i]?=some x):l.take (i+1)=l.take i++ [x]:=by
 rw [List.take_add_one,h];rfl
theorem forIn_range0 {β:Type}(n:Nat)(b:β)(f:Nat→β→Sem (ForInStep β)):forIn (Std.Legacy.Range.mk 0 n 1 Nat.zero_lt_one) b f=forIn (List.range' 0 n) b f:=by
 rw [Std.Legacy.Range.forIn_eq_forIn_range']
 simp only [Std.Legacy.Range.size,Nat.sub_zero,Nat.add_sub_cancel,Nat.div_one]
theorem join_ne {β:Type}(arr:Array Value)(h:arr.size≠1)(f:Value→β)(g:Array Value→β):Builtin.Bytes.joinM.match_1 (fun _=>β) arr f g=g arr:=by
 obtain ⟨l⟩:=arr
 match l,h with
 | [],_=>rfl
 | [_],h=>exact absurd rfl h
 |_::_::_,_=>rfl
section
variable {prog:Program}{w:World}{A:Around}{E:Value→Shared→Prop}{s:Shared}
theorem bytes_join {l:Addr}{vs:List Value}{bs:List (List UInt8)}{n:Nat}{t:Tok}{Q:Value→Shared→Prop}(hl:s.heap.get? l=some (Internal.seqObj "list" vs n))(hb:BytesAre vs bs)(hz:bs.flatten.length≤16777216)
  (h: ∀u k,Q (.bytes bs.flatten.toArray u) {s with toks:=k}):wpAny (model prog w) A (call (.builtin "bytes.join") [.bytes #[] t,.ref l]) Q E s:=by
 refine wpAny_call_entry slot_bytes_join rfl entry_bytes_join ?_ (args_bytes_join _ _)
 have hlen:=hb.len
 unfold Builtin.«bytes.join» Builtin.Bytes.joinM
 refine wpAny_bind (wpAny_of_eq (a:=(Value.bytes #[] t,Value.ref l)) rfl ?_)
 refine wp_pos (by rfl) ?_
 refine wpAny_bind ?_
 unfold Builtin.Bytes.joinItems
 refine wpAny_bind (wpAny_typeOf (T:= "list") ⟨_,hl,rfl⟩ ?_)
 refine wp_pos (by decide) ?_
 refine wpAny_pure ?_
 refine wpAny_bind (wpAny_seqItems hl rfl ?_)
 dsimp only
 refine wp_pos (by rfl) ?_
 by_cases h1:vs.length=1
 ·obtain ⟨b,u,rfl,rfl⟩:=hb.one h1
  refine wpAny_bind (wpAny_typeOf (v:= .bytes b.toArray u) (T:= "bytes") rfl ?_)
  refine wp_pos (by decide) ?_
  refine wpAny_bind (wpAny_rule ?_)
  refine wpAny_pure ⟨_,rfl,?_⟩
  have:=h u s.toks
  rw [show ([b]:List (List UInt8)).flatten=b by simp] at this
  exact this
 ·refine rwG (join_ne _ (by simpa using h1) ..) ?_
  refine wpAny_bind (rwG (forIn_range0 ..) ?_)
  refine forIn_count (acc:=fun i=>(((bs.take i).map List.toArray).toArray,(vs.take i).map fun v=>(v,Option.none))) (k:=vs.length) (z:=((bs.map List.toArray).toArray,vs.map fun v=>(v,Option.none))) ?_ ?_ ?_ _ 0 (Nat.zero_add _)
  ·refine congr (congrArg Prod.mk ?_) ?_
   ·simp [hlen]
   ·simp
  ·intro x hlt
   obtain ⟨u,hu⟩:=hb.get x (by exact Nat.lt_of_lt_of_eq hlt hlen)
   have e2:vs.toArray.getD x Value.none= .bytes (bs.getD x []).toArray u:=by
    refine rwG (Array.getD_eq_getD_getElem? ..) ?_
    simp [hu]
   refine wpAny_bind (wpAny_seqItems hl rfl ?_)
   refine wp_neg (by exact Bool.not_eq_true _▸any_heap _ fun v hv=>hb.off v (List.mem_of_mem_take hv)) ?_
   refine rwG e2 ?_
   refine wpAny_bind (wpAny_holding (take_buffer ?_))
   refine wpAny_bind (wpAny_seqItems hl rfl ?_)
   refine wp_neg (by simp) ?_
   refine wpAny_pure ⟨congrArg _ (congr (congrArg Prod.mk ?_) ?_),rfl⟩
   ·have:bs[x]?=some (bs.getD x []):=by
     rw [List.getD_eq_getElem?_getD,List.getElem?_eq_getElem (by exact Nat.lt_of_lt_of_eq hlt hlen)];rfl
    simp [take_one_more this]
   ·simp [take_one_more hu]
  ·unfold Builtin.Bytes.payload Builtin.Bytes.payload?
   refine wpAny_bind (wpAny_bind (wpAny_pure (wpAny_pure ?_)))
   refine wp_neg (by
    unfold Builtin.Bytes.tooLong
    refine rwG (sizeLine_eq ..) ?_
    have:=sum_sizes bs ((#[]:Array UInt8).size*((bs.map List.toArray).toArray.size - 1))
    rw [List.length_flatten] at hz
    simp at this⊢
    lia) ?_
   refine wpAny_bind (m:=Builtin.Bytes.Kind.new .bytes _) (wpAny_mkBytes ?_ ?_)
   ·refine wpAny_bind (wpAny_holding (wpAny_point ?_))
    refine wpAny_bind (let_all _ _ _ _ ?_)
    refine rwG (joined_flat ..) ?_
    exact wpAny_pure ⟨_,rfl,h _ _⟩
   ·refine rwG (joined_flat ..) ?_;refine rwG (sizeLine_eq ..) ?_
    simpa using hz
end
section
variable {G:Gl}{C:Cx}{lv:List (Option AVal)}{σ:Own}{Q:AVal→Own→Prop}{x:Prop}
theorem VRels.bytes {P:Params}{K:Kept}{bs:List (List UInt8)}{cvs:List Value}(h:VRels P K (bs.map .bytes) cvs):BytesAre cvs bs:=by
 induction bs generalizing cvs with
 |nil=>exact h.nilE .nil
 |cons b r ih=>exact h.consE fun _ _ a b=>a.bytesE fun _=> .cons _ _ (ih b)
theorem Meth.joinB :Meth G C lv σ (.bytes []) "join" (.builtin "bytes.join"):=by
 intro K J m own s ca pl Q E S I O r h
 revert h
 refine r.bytesE fun _ h=>?_
 exact getMethod_builtin (T:= "bytes") rfl FB.plainAttrs_bytes slot_bytes_join type_bytes_join (fun a e=>nomatch e) h
theorem CallP.joinB {bs:List (List UInt8)}(hz:bs.flatten.length≤16777216)(h:Q (.bytes bs.flatten) σ):CallP G C lv σ (.builtin "bytes.join") [.bytes [],.lst (bs.map .bytes)] Q x:=by
 intro K J m own s cvs S I O r
 refine r.twoE fun _ _ r1 r2=>r1.bytesE fun _=>r2.lstE fun _ _ _ hk hv=>?_
 exact bytes_join (I.k _ _ hk) hv.bytes hz fun u k=>⟨K,own,_,σ,s.heap,k,rfl,fun _ _ e=>e,I,O,.bytes _ u,h⟩
end
section
variable {G:Gl}{C:Cx}{lv:List (Option AVal)}{σ:Own}{x:Prop}
theorem comp_kind {scope:Scope}{cl:List (Str×Addr)}{Cc:Addr}{y:Str}{k:NameKind}(h:scope.names.lookup y=some k)(hk:(k== .free)=false):(C.comp scope cl Cc).env.kindOf y=some k:=by
 show (relabel scope C.env).names.lookup y=some k
 unfold relabel
 revert h
 generalize scope.names=ns
 intro h
 show (List.map _ ns).lookup y=some k
 induction ns with
 |nil=>cases h
 |cons p r ih=>
  obtain ⟨n,k'⟩:=p
  rw [List.lookup_cons] at h
  rw [List.map_cons]
  dsimp only
  cases e:y==n
  ·rw [e] at h
   have:=ih h
   cases (k'==NameKind.free&&C.env.scope.kind==ScopeKind.function&&C.env.kindOf n==some NameKind.cell)
   ·rw [if_neg (by decide),List.lookup_cons,e];exact this
   ·rw [if_pos rfl,List.lookup_cons,e];exact this
  ·rw [e] at h
   cases h
   rw [hk,Bool.false_and,Bool.false_and]
   rw [if_neg (by decide),List.lookup_cons,e]
end
section
variable {G:Gl}{C:Cx}{lv:List (Option AVal)}{σ:Own}{x:Prop}{Q:AVal→Own→Prop}
theorem boot_chr :bootBuiltins "chr"=some (.builtin "chr"):=by kernel_rfl
theorem boot_ord :bootBuiltins "ord"=some (.builtin "ord"):=by kernel_rfl
noncomputable def tagR (b:List UInt8):Str:=Txt.join "" (b.map fun c=>⟨#[c.toNat]⟩)
theorem tagR_tagB {y:Str}(h:IsTag y):tagR (tagB y)=y:=by cases h<;>decide+kernel
theorem tagB_length {y:Str}(h:IsTag y):(tagB y).length=4:=by cases h<;>decide+kernel
theorem capNo {caps:List (Option Nat)}{lv:List (Option AVal)}{j:Nat}{w:AVal}{P:Prop}(hc:caps.all Option.isNone=true)(h:(capLv lv caps)[j]?=some (some w)):P:=by
 obtain ⟨k,e,_⟩:=capLv_get h
 have:=List.all_eq_true.mp hc _ (List.mem_of_getElem? e)
 cases this
set_option maxHeartbeats 2000000 in
theorem in_tag (hG:G.frag=KF G.w.params)(hrk:3≤C.rk){a:Addr}{j:Nat}{d:List UInt8}{i:Nat}(hj:σ[j]?=some (a,inObj d i))(h1:i+4≤d.length)(hd:d.length≤16777216)
  (h:Q (.str (tagR (cut d (some (i:Int)) (some ((i:Int)+4))))) (σ.set j (a,inObj d ((i:Int)+4)))):CallP G C lv σ (.ref 165) [.ref a] Q x:=by
 refine CallP.intro (ok_OctetsIn_tag hG) rfl (by exact Nat.one_le_of_lt hrk) (len1 fun _=>rfl) ?_
 intro g L'
 refine Ex.cons (Ex.expr (Ev.methN (.ref 118) (i:=0) rfl rfl (Meth.inst hj (mo_OctetsIn_need hG) rfl) (.fk hG rfl) (?_)))
 refine Args'.int (Args'.nil ?_)
 refine in_need hG (show 2≤C.rk - 1 by exact Nat.le_sub_one_of_lt hrk) hj (by exact Int.natCast_nonneg i) (by exact Int.toNat_le.mp h1) hd ?_
 have hc:(cut d (some (i:Int)) (some ((i:Int)+4))).length=4:=cut_length h1
 refine Ex.cons (Ex.assignL 1 rfl ?_)
 refine Ev.sliceB (Ev.attrN (i:=0) rfl rfl (Attr.inst hj (fo_OctetsIn_data hG) rfl ?_))
 refine ⟨d,rfl,hd,EvP.some (Ev.attrN (i:=0) rfl rfl (Attr.inst hj (fo_OctetsIn_at hG) rfl ⟨_,rfl,?_⟩))⟩
 refine EvP.some (Ev.bin (Ev.attrN (i:=0) rfl rfl (Attr.inst hj (fo_OctetsIn_at hG) rfl (Ev.int (Bin.add ⟨_,rfl,?_⟩)))))
 generalize cut d (some (i:Int)) (some ((i:Int)+4))=t at h hc
 refine Ex.cons (Ex.setAttr (Ev.bin (Ev.attrN (i:=0) rfl rfl (Attr.inst hj (fo_OctetsIn_at hG) rfl (Ev.int (Bin.add ?_))))))
 refine Ev.name (i:=0) rfl rfl ⟨a,clsIn,_,j,rfl,hj,so_OctetsIn_at hG,Nat.le_of_ble_eq_true rfl,?_⟩
 refine Ex.cons (Ex.ret ?_)
 refine @Ev.methC _ _ _ _ _ _ _ _ _ _ _ _ _ (.builtin "str.join") ?_ form_comp (Eq.refl true)
 refine Ev.str ⟨Meth.join,Keeps.builtin,Args'.cons ?_⟩
 refine Ev.comp [none,none,none] (t.map fun c=> .int (c.toNat:Int)) (fun k out σ'=>σ'=σ.set j (a,inObj d ((i:Int)+4))∧out=((t.take k).map fun c=>(⟨#[c.toNat]⟩:Str)).map .str) ?_ ?_ ?_ (by rw [List.length_map];lia) (ok:=by kernel_rfl)
 ·exact Ev.name (i:=1) rfl rfl ⟨.bytes _,rfl,rfl⟩
 ·rintro k w out σ' hk ⟨rfl,rfl⟩ cl Cc h0C oC
  rw [List.getElem?_map] at hk
  cases hc:t[k]? with
  |none=>rw [hc] at hk;cases hk
  |some c=>
  rw [hc] at hk
  obtain rfl:AVal.int (c.toNat:Int)=w:=Option.some.inj hk
  refine ⟨_,fun j w hw=>capNo (caps:= [none,none,none]) rfl hw,CTgt.name (i:=1) oC h0C rfl rfl (by decide),Tsts.nil ?_⟩
  ·show Ev _ _ _ _ _ _ _
   refine Ev.call (Ev.built (hk:=comp_kind rfl rfl) (ns_chr hG) boot_chr ⟨_,rfl,Keeps.builtin,Args'.name (i:=1) rfl rfl (Args'.nil ?_)⟩)
   refine CallP.chr (by exact Int.natCast_nonneg c.toNat) ?_ ?_
   ·have:=c.toNat_lt;lia
   ·refine ⟨rfl,?_⟩
    rw [List.take_add_one,hc,Option.toList_some,List.map_append,List.map_append]
    rfl
 ·rintro out σ' ⟨rfl,rfl⟩
  rw [List.length_map,List.take_length]
  refine Args'.nil (CallP.join ?_ h)
  rw [List.map_map]
  have: ∀l:List UInt8,((l.map ((·.length)∘fun c=>(⟨#[c.toNat]⟩:Str))).sum)=l.length:=fun l=>by
   induction l with
   |nil=>rfl
   |cons c r ih=>rw [List.map_cons,List.sum_cons,ih,List.length_cons];exact Nat.add_comm ..
  rw [this,List.length_map]
  show t.length+t.length*0≤_
  lia
end
section
variable {G:Gl}{C:Cx}{lv:List (Option AVal)}{σ:Own}{x:Prop}{Q:AVal→Own→Prop}
theorem tag_signs {y:Str}(h:IsTag y):y.length=4∧y.cps.toList.length=4∧ ∀c∈y.cps.toList,c<256:=by cases h<;>decide+kernel
theorem tag_octets {y:Str}(h:IsTag y):((y.cps.toList.map fun (c:Nat)=>(c:Int)).map fun n=>n.toNat.toUInt8)=tagB y:=by cases h<;>decide+kernel
theorem map_at {α β:Type}{l:List α}{f:α→β}{k:Nat}{w:β}(h:(l.map f)[k]?=some w): ∃a,l[k]?=some a∧f a=w:=by
 rw [List.getElem?_map] at h
 cases e:l[k]? with
 |none=>rw [e] at h;cases h
 |some a=>rw [e] at h;exact ⟨a,rfl,Option.some.inj h⟩
set_option maxHeartbeats 4000000 in
theorem out_tag (hG:G.frag=KF G.w.params)(hrk:1≤C.rk){a m:Addr}{i j:Nat}{b:List UInt8}{y:Str}(hy:IsTag y)(hi:σ[i]?=some (a,outObj m))(hj:σ[j]?=some (m,.barr b))(hz:b.length≤16000000)(h:Q .none (σ.set j (m,.barr (b++tagB y)))):
  CallN G C lv σ (.ref 243) [.ref a,.str y] Q x:=by
 obtain ⟨e1,e2,e3⟩:=tag_signs hy
 refine CallN.intro (ok_OctetsOut_tag hG) rfl (by exact Nat.one_le_of_lt hrk) (len2 fun _ _=>rfl) ?_
 intro g L'
 refine ExN.step (Ex.ite (Tst.boolop (All.or (Tst.cmp ?_))))
 refine Ev.callB (ns_len hG) rfl Keeps.builtin (Args'.name (i:=1) rfl rfl (Args'.nil (CallP.lenS ?_ (by lia))))
 refine Ev.int (Cmp.ne ?_)
 refine rwG (e1 ..) ?_
 refine All.or (Tst.cmp ?_)
 refine Ev.comp [none,none,none] (y.cps.toList.map fun c=> .str ⟨#[c]⟩) (fun k out σ'=>σ'=σ∧out= []) ?_ ?_ ?_ (by rw [List.length_map];lia)
 ·exact Ev.name (i:=1) rfl rfl ⟨.str _,rfl,rfl⟩
 ·rintro k w out σ' hk ⟨rfl,rfl⟩ cl Cc h0C oC
  obtain ⟨c,hc,rfl⟩:=map_at hk
  have hlt:=e3 c (List.mem_of_getElem? hc)
  refine ⟨_,fun j w hw=>capNo (caps:= [none,none,none]) rfl hw,CTgt.name (i:=1) oC h0C rfl rfl (by decide),Tsts.one (Tst.cmp ?_)⟩
  refine Ev.call (Ev.built (hk:=comp_kind rfl rfl) (ns_ord hG) boot_ord ⟨_,rfl,Keeps.builtin,Args'.name (i:=1) rfl rfl (Args'.nil (CallP.ord rfl ?_))⟩)
  refine Ev.int (Cmp.gt ?_)
  have e:((#[c]:Array Nat).getD 0 0:Nat)=c:=rfl
  refine rwG (e ..) ?_;refine rwG (decide_eq_false (by lia) ..) ?_;refine rwG (if_neg (by decide) ..) ?_
  exact ⟨rfl,rfl⟩
 ·rintro out σ' ⟨rfl,rfl⟩
  refine Ev.list (Args'.nil ⟨by decide,?_⟩)
  refine Cmp.neInts (ns:= []) (ms:= []) ?_
  refine All.or_nil ?_
  refine rwG (if_neg (by decide) ..) ?_
  refine Ex.nil ?_
  refine ExN.cons (ExN.expr (EvN.meth (.builtin "bytearray.extend") ?_))
  refine Ev.attrN (i:=0) rfl rfl (Attr.inst hi (fo_OctetsOut_made hG) rfl ⟨Meth.extend hj,Keeps.builtin,?_⟩)
  refine ArgsN.cons (.of (Ev.callB (ns_bytes hG) rfl Keeps.type (Args'.cons ?_)))
  refine Ev.comp [none,none,none] (y.cps.toList.map fun c=> .str ⟨#[c]⟩) (fun k out σ''=>σ''=σ'∧out=(((y.cps.toList.take k).map fun (c:Nat)=>(c:Int)).map .int)) ?_ ?_ ?_ (by rw [List.length_map];lia)
  ·exact Ev.name (i:=1) rfl rfl ⟨.str _,rfl,rfl⟩
  ·rintro k w out σ' hk ⟨rfl,rfl⟩ cl Cc h0C oC
   obtain ⟨c,hc,rfl⟩:=map_at hk
   refine ⟨_,fun j w hw=>capNo (caps:= [none,none,none]) rfl hw,CTgt.name (i:=1) oC h0C rfl rfl (by decide),Tsts.nil ?_⟩
   show Ev _ _ _ _ _ _ _
   refine Ev.call (Ev.built (hk:=comp_kind rfl rfl) (ns_ord hG) boot_ord ⟨_,rfl,Keeps.builtin,Args'.name (i:=1) rfl rfl (Args'.nil (CallP.ord rfl ?_))⟩)
   refine ⟨rfl,?_⟩
   refine rwG (List.take_add_one ..) ?_;refine rwG (hc ..) ?_;refine rwG (Option.toList_some ..) ?_;refine rwG (List.map_append ..) ?_;refine rwG (List.map_append ..) ?_
   rfl
  ·rintro out σ' ⟨rfl,rfl⟩
   refine rwG (List.length_map ..) ?_;refine rwG (List.take_length ..) ?_
   refine Args'.nil (CallP.bytesL (fun n hn=>?_) (by rw [List.length_map];lia) ?_)
   ·obtain ⟨c,hc,rfl⟩:=List.mem_map.mp hn
    have:=e3 c hc
    lia
   ·refine rwG (tag_octets hy ..) ?_
    have hl:=tagB_length hy
    refine ArgsN.nil (CallN.extend hj ?_ (ExN.nil h))
    lia
set_option maxHeartbeats 4000000 in
theorem out_rows (hG:G.frag=KF G.w.params)(hrk:2≤C.rk){a m:Addr}{i j:Nat}{b:List UInt8}{u v w:Int}(h1:0≤u∧u<256^2)(h2:0≤v∧v<256^2)(h3:0≤w∧w<256^2)
  (hi:σ[i]?=some (a,outObj m)) (hj:σ[j]?=some (m,.barr b)) (hz:b.length≤16000000) (h:Q .none (σ.set j (m,.barr (b++(be u 2++be v 2++be w 2))))):
  CallN G C lv σ (.ref 248) [.ref a,.tup [.int u,.int v,.int w]] Q x:=by
 refine CallN.intro (ok_OctetsOut_rows hG) rfl (by exact Nat.one_le_of_lt hrk) (len2 fun _ _=>rfl) ?_
 intro g L'
 refine ExN.cons (ExN.expr (EvN.meth (.builtin "bytearray.extend") ?_))
 refine Ev.attrN (i:=0) rfl rfl (Attr.inst hi (fo_OctetsOut_made hG) rfl ⟨Meth.extend hj,Keeps.builtin,?_⟩)
 refine ArgsN.cons (.of ?_)
 refine @Ev.methC _ _ _ _ _ _ _ _ _ _ _ _ _ (.builtin "bytes.join") ?_ form_comp (Eq.refl true)
 refine Ev.bytes ⟨Meth.joinB,Keeps.builtin,Args'.cons ?_⟩
 have hin: ∀n∈ [u,v,w],0≤n∧n<256^2:=by
  intro n hn
  simp only [List.mem_cons,List.not_mem_nil,or_false] at hn
  rcases hn with rfl|rfl|rfl<;>assumption
 refine Ev.comp [none,none,none] ([u,v,w].map .int) (fun k out σ'=>σ'=σ∧out=(([u,v,w].take k).map fun n=>be n 2).map .bytes) ?_ ?_ ?_ (Nat.le_of_ble_eq_true rfl)
 ·exact Ev.name (i:=1) rfl rfl ⟨.tup _,rfl,rfl⟩
 ·rintro k w' out σ' hk ⟨rfl,rfl⟩ cl Cc h0C oC
  obtain ⟨c,hc,rfl⟩:=map_at hk
  have hb:=hin c (List.mem_of_getElem? hc)
  refine ⟨_,fun j w hw=>capNo (caps:= [none,none,none]) rfl hw,CTgt.name (i:=1) oC h0C rfl rfl (by decide),Tsts.nil ?_⟩
  show Ev _ _ _ _ _ _ _
  refine Ev.call (Ev.glob (hk:=comp_kind rfl rfl) (ns_number_octets hG) ⟨_,rfl,Keeps.fk hG rfl,Args'.name (i:=1) rfl rfl (Args'.int (Args'.nil ?_))⟩)
  refine number_octets_spec hG (show 1≤C.rk - 1 by exact Nat.le_sub_one_of_lt hrk) (n:=2) hb.1 (.inl rfl) hb.2 ?_
  refine ⟨rfl,?_⟩
  refine rwG (List.take_add_one ..) ?_;refine rwG (hc ..) ?_;refine rwG (Option.toList_some ..) ?_;refine rwG (List.map_append ..) ?_;refine rwG (List.map_append ..) ?_
  rfl
 ·rintro out σ' ⟨rfl,rfl⟩
  refine Args'.nil (CallP.joinB ?_ ?_)
  ·show (be u 2++(be v 2++(be w 2++ []))).length≤_
   simp only [List.length_append,be_length,List.length_nil]
   exact Nat.le_of_ble_eq_true rfl
  ·have e:(List.map (fun n=>be n 2) (List.take (List.map AVal.int [u,v,w]).length [u,v,w])).flatten=be u 2++be v 2++be w 2:=by
    show be u 2++(be v 2++(be w 2++ []))=_
    rw [List.append_nil,List.append_assoc]
   refine rwG (e ..) ?_
   refine ArgsN.nil (CallN.extend hj ?_ (ExN.nil h))
   simp only [List.length_append,be_length]
   lia
end
section
variable {G:Gl}{C:Cx}{lv:List (Option AVal)}{scope:Scope}{σ:Own}
theorem Ex.assignCompO {target iter elt : Expr} {ifs : List Expr} {pos p spos : Pos} {y : Str} {k : NameKind} {Qn : List (Option AVal) → Own → Prop} {Qr : AVal → Own → Prop} {x : Prop} (j : Nat) (caps : List (Option Nat)) (vs : List AVal) (Φ : Nat → List AVal → Own → Prop)
  (hn : C.env.scope.names[j]? = some (y,k)) (hk : C.env.kindOf y = some .local) (hL : C.env.locals = C.L)
  (hit : Ev G C lv σ iter (fun v σ₁=>IterOf v vs ∧ Φ 0 [] σ₁) x)
  (turn : ∀ (i : Nat) v out σ,vs[i]? = some v → Φ i out σ → CTurn G C lv scope caps target elt ifs Φ i v out σ)
  (done : ∀ D out σ,Φ vs.length out σ → Qn (lv.set j (some (.ref D))) (σ ++ [(D,.list out)]))
  (hsz : vs.length ≤ 16777216)
  (hsw : swapsWith (.ListComp elt [⟨target,iter,ifs,0⟩] scope pos) (some (.Name y p)) spos.line C.env = pure true:=by rfl)
  (ok : compChk C.env scope caps = true:=by rfl) (hd : (y == ("__debug__" : Str)) = false:=by decide)
  (hs : ∀ y,foldedSetIterable iter C.env y = pure y:=by intro _;rfl) : Ex G C lv σ (exec (.Assign [.Name y p] (.ListComp elt [⟨target,iter,ifs,0⟩] scope pos) spos) C.env) Qn Qr x:=fun K J m own s S I O=>by
 have ok':=CompOk.of ok
 obtain ⟨cl,hc,hcl1,hcl2⟩ :=closureFor_get (env:=C.env) (scope:=scope) fun y hy e=>(ok'.free y hy e).2
 rw [exec_Assign_Name_used _ _ _ _ hsw]
 refine wpAny_bind (wpAny_standAt (wpAny_bind ?_))
 show wpAny _ C.A (do let _ ← comprehension (.ListComp elt [⟨target,iter,ifs,0⟩] scope pos) scope C.env _ (newList []) false (eval iter C.env) (some (PySem.assign (.Name y p) C.env))) _ _ s
 refine wpAny_bind (wpAny_mono (wpAny_comprehension_free (e:= .ListComp elt [⟨target,iter,ifs,0⟩] scope pos) (g:=⟨target,iter,ifs,0⟩) (gs:= []) (use:=some (PySem.assign (.Name y p) C.env)) (Q:=fun _ s'=>PostS G C K J s (FlowF G Qn Qr) .next s') (E:=fun ev s'=>x ∧ Thrown C s ev s') rfl hs hc ok'.kind ok'.names
  (hit.seq S I O (fun K₁ own₁ v σ₁ h₁ tk₁ cv k₁ I₁ O₁ r₁ S₁ q₁=>?_) fun _ _ f=>⟨f.1,.flown f.2⟩)) (fun _ s' hq=>wpAny_pure (wpAny_pure hq)) fun _ _ e=>e)
 obtain ⟨hI,hΦ⟩ :=q₁
 refine iter_of S.hh hI I₁ r₁ fun It St h₂ tk₂ g hIt W st=>?_
 refine comp_coreO (C:=C) (s:={s with heap:=h₂,toks:=tk₂}) (RR:=fun acc Cc=>compPost (model G.prog G.w) C.A (fun ev s'=>x ∧ Thrown C s ev s') (some (PySem.assign (.Name y p) C.env)) (fun _ s'=>PostS G C K J s (FlowF G Qn Qr) .next s') acc Cc) ok' hsz hcl1 hcl2 (fun Cc i v out σ a b=>turn i v out σ a b cl Cc) S₁ I₁ O₁ g hIt W st hΦ ?_
 intro D Cc h tk K' own' out σ' oC mC cvs nn hk' I' nC h0 hl O' r q
 have O' : Owns G.w.params K' (σ' ++ [(D,.list out)]) (own' ++ [(D,seqObj "list" cvs nn)]) :=O'.append (.cons (.list r) .nil)
 show wpAny _ C.A (PySem.assign (.Name y p) C.env (.ref D)) _ _ _
 have S' : Sit G C lv K' (J.upd Cc oC) m:=(S₁.mono hk').upd h0 fun o' z=>(nC _ z).elim
 have hcell:=S.notCell nC
 refine wpAny_assign_Name (wpAny_mono (Sto.bind (Qn:=Qn) (x:=x) hn (.inl ⟨hk,hL⟩) hd (done D _ _ q) K' _ m _ {s with heap:=h,toks:=tk} (.ref D) S' I' O' (.ref D)) (fun _ s' p=>?_) fun _ _ f=>⟨f.1,f.2.start rfl⟩)
 obtain ⟨K2,J2,own2,lv2,σ2,m2,h2,tk2,rfl,k2,j2,S2,I2,O2,q2⟩ :=p
 have jC : J2 Cc oC:=j2 _ _ Kept.upd_self hcell
 refine ⟨mC,ns_of_locs (I2.j _ _ jC) hl,fun h' hs'=>?_⟩
 have pl : ∀ o',J2 Cc o' → ∀ v,o'.data ≠ .cell v:=fun o' z v q=>by
  have e1:=I2.j _ _ z
  rw [I2.j _ _ jC] at e1
  cases e1
  obtain ⟨es,ep,hd',_⟩ :=hl
  rw [hd'] at q;cases q
 have hCL : Cc ≠ C.env.locals:=fun e=>by
  rw [hL] at e
  exact I2.jL _ (e ▸ jC)
 have S2' : Sit G C lv2 K2 (J2.del Cc) m2:=
  S2.mapJ (fun a o' e q=>⟨fun z=>(nomatch e.symm.trans ((congrArg C.h₀.get? z).trans h0)),q⟩) (fun o' _ _ _ q=>⟨fun e=>hCL e.symm,q⟩) fun a o' _ e q=>⟨fun z=>pl o' (z ▸ q) _ e,q⟩
 exact ⟨K2,J2.del Cc,own2,lv2,σ2,m2,h',tk2,rfl,fun a o z=>k2 _ _ (hk' _ _ (k₁ _ _ z)),fun a o z n=>⟨fun q=>nC _ (q ▸ z),j2 _ _ (Kept.upd_other z fun q=>nC _ (q ▸ z)) n⟩,S2',I2.delJ (fun b ob n e=>(hs'.2 b n).trans e) jC,O2,.inl ⟨rfl,q2⟩⟩
theorem Inv.left {K J:Kept}{l1 l2:Led}{L:Addr}{m:Str→Option Value}{h:Heap}(I:Inv K J (l1++l2) L m h):Inv K J l1 L m h:=by
 have sub: ∀p∈l1,p∈l1++l2:=fun p hp=>List.mem_append_left _ hp
 have nd:=I.nodup
 rw [List.map_append,List.nodup_append] at nd
 exact ⟨I.k,I.j,fun p hp=>I.ow p (sub p hp),nd.1,fun p hp=>I.ok p (sub p hp),fun p hp=>I.oj p (sub p hp),I.kj,I.ns,I.kL,I.jL,fun p hp=>I.oL p (sub p hp)⟩
theorem PostR.forget {α β:Type}{rel:Kept→β→α→Prop}{L:Addr}{m:Str→Option Value}{K J:Kept}{s:Shared}{Q:β→Own→Prop}{a:α}{s':Shared}(n:Nat)(p:PostR rel G L m K J s (fun v σ'=>Q v (σ'.take n)) a s'):PostR rel G L m K J s Q a s':=by
 obtain ⟨K',own',v,σ',h',tk',e,hk,I',O',r,q⟩:=p
 rw [←List.take_append_drop n σ'] at O'
 obtain ⟨o1,o2,rfl,O1,_⟩:=O'.split
 exact ⟨K',o1,v,_,h',tk',e,hk,I'.left,O1,r,q⟩
section
variable {x:Prop}{Q:AVal→Own→Prop}
theorem CallP.forget {f:Value}{vs:List AVal}(n:Nat)(h:CallP G C lv σ f vs (fun v σ'=>Q v (σ'.take n)) x):CallP G C lv σ f vs Q x:=fun K J m own s cvs S I O r=>
 wpAny_mono (h K J m own s cvs S I O r) (fun _ _ p=>p.forget n) fun _ _ f=>f
theorem CallN.forget {f:Value}{vs:List AVal}(n:Nat)(h:CallN G C lv σ f vs (fun v σ'=>Q v (σ'.take n)) x):CallN G C lv σ f vs Q x:=fun K J m own s cvs S I O r=>
 (h K J m own s cvs S I O r).mono (fun _ _ p=>p.forget n) fun _ _ f=>f
end
theorem Sit.setVal {C:Cx}{K K' J:Kept}{m:Str→Option Value}{j:Nat}{v w:AVal}(S:Sit G C (lv.set j (some v)) K J m)(hk: ∀a o,K a o→K' a o)(h: ∀cv,VRel G.w.params K v cv→VRel G.w.params K' w cv):Sit G C (lv.set j (some w)) K' J m:=
 {S.mono hk with
  lv:=(by
   intro i y k u h1 h2
   rcases lv_set h2 with ⟨rfl,rfl⟩|⟨hj,h2⟩
   ·have e:(lv.set i (some v))[i]?=some (some v):=by
     have hl:=(List.getElem?_eq_some_iff.mp h2).1
     rw [List.length_set] at hl
     rw [List.getElem?_set_self hl]
    obtain ⟨cv,a,b⟩:=S.lv i y k v h1 e
    exact ⟨cv,a,h cv b⟩
   ·obtain ⟨cv,a,b⟩:=S.lv i y k u h1 ((List.getElem?_set_ne (fun q=>hj q.symm)).trans h2)
    exact ⟨cv,a,b.mono hk⟩)}
theorem Ex.assignComp {target iter elt:Expr}{ifs:List Expr}{pos p spos:Pos}{y:Str}{k:NameKind}{Qn:List (Option AVal)→Own→Prop}{Qr:AVal→Own→Prop}{x:Prop}(j:Nat)(caps:List (Option Nat))(vs:List AVal)(Φ:Nat→List AVal→Own→Prop)
  (hn:C.env.scope.names[j]?=some (y,k)) (hk:C.env.kindOf y=some .local) (hL:C.env.locals=C.L)
  (hit:Ev G C lv σ iter (fun v σ₁=>IterOf v vs∧Φ 0 [] σ₁) x)
  (turn: ∀(i:Nat) v out σ,vs[i]?=some v→Φ i out σ→CTurn G C lv scope caps target elt ifs Φ i v out σ)
  (done: ∀out σ,Φ vs.length out σ→Qn (lv.set j (some (.lst out))) σ)
  (hsz:vs.length≤16777216)
  (hsw:swapsWith (.ListComp elt [⟨target,iter,ifs,0⟩] scope pos) (some (.Name y p)) spos.line C.env=pure true:=by rfl)
  (ok:compChk C.env scope caps=true:=by rfl) (hd:(y==("__debug__":Str))=false:=by decide)
  (hs: ∀y,foldedSetIterable iter C.env y=pure y:=by intro _;rfl):Ex G C lv σ (exec (.Assign [.Name y p] (.ListComp elt [⟨target,iter,ifs,0⟩] scope pos) spos) C.env) Qn Qr x:=by
 have e:Ex G C lv σ (exec (.Assign [.Name y p] (.ListComp elt [⟨target,iter,ifs,0⟩] scope pos) spos) C.env) (fun lv' σ'=> ∃D out σ₁,lv'=lv.set j (some (.ref D))∧σ'=σ₁++ [(D,.list out)]∧Qn (lv.set j (some (.lst out))) σ₁) Qr x:=
  Ex.assignCompO j caps vs Φ hn hk hL hit turn (fun D out σ q=>⟨D,out,σ,rfl,rfl,done out σ q⟩) hsz hsw ok hd hs
 refine fun K J m own s S I O=>wpAny_mono (e K J m own s S I O) (fun f s' p=>?_) fun _ _ f=>f
 obtain ⟨K',J',own',lv',σ',m',h',tk',e,k,j',S',I',O',q⟩:=p
 rcases q with ⟨rfl,D,out,σ₁,rfl,rfl,q⟩|q
 ·obtain ⟨l1,l,l2,rfl,ro,O2⟩:=O'.erase (i:=σ₁.length) (a:=D) (o:= .list out) (by simp)
  rw [show (σ₁++ [(D,OObj.list out)]).eraseIdx σ₁.length=σ₁ by rw [List.eraseIdx_append_of_length_le (Nat.le_refl _),Nat.sub_self];simp] at O2
  exact ⟨_,J',_,_,σ₁,m',h',tk',e,fun a o z=> .inl (k a o z),j',S'.setVal (fun _ _ z=> .inl z) (fun cv r=>r.refE ((Fz.list out).rel ro)),I'.freeze,O2.mono fun _ _ z=> .inl z,.inl ⟨rfl,q⟩⟩
 ·exact ⟨K',J',own',lv',σ',m',h',tk',e,k,j',S',I',O',.inr q⟩
end
section
variable {G:Gl}{C:Cx}{lv:List (Option AVal)}{σ:Own}{x:Prop}{Q:AVal→Own→Prop}
noncomputable abbrev Rec :=Str×Int×Int×Int×Int
noncomputable abbrev recA (r:Rec):AVal:= .rcd [.str r.1,.int r.2.1,.int r.2.2.1,.int r.2.2.2.1,.int r.2.2.2.2]
noncomputable def recAt (d:List UInt8)(w:Int):Rec:=
 (tagR (cut d (some w) (some (w+4))),numOf (cut d (some (w+4)) (some (w+4+4))),numOf (cut d (some (w+4+4)) (some (w+4+4+4))),numOf (cut d (some (w+4+4+4)) (some (w+4+4+4+4))),w)
theorem get_end {σ:Own}{p:Addr×OObj}:(σ++ [p])[σ.length]?=some p:=by simp
theorem set_end {σ:Own}{p q:Addr×OObj}:(σ++ [p]).set σ.length q=σ++ [q]:=by simp
set_option maxHeartbeats 2000000 in
theorem read_record_spec (hG:G.frag=KF G.w.params)(hrk:5≤C.rk){d:List UInt8}{w:Nat}(h1:w+16≤d.length)(hd:d.length≤16777216)(h:Q (recA (recAt d w)) σ):CallP G C lv σ (.ref 326) [.bytes d,.int w] Q x:=by
 refine CallP.forget σ.length ?_
 refine CallP.intro (ok_read_record hG) rfl (by exact Nat.one_le_of_lt hrk) (len2 fun _ _=>rfl) ?_
 intro g L'
 refine Ex.cons (Ex.assignL 2 rfl (Ev.callG (ns_OctetsIn hG) (.fk hG rfl) ?_))
 refine Args'.name (i:=0) rfl rfl (Args'.name (i:=1) rfl rfl (Args'.nil ?_))
 refine in_new hG (show 2≤C.rk - 1 by lia) fun a=>?_
 refine Ex.cons (Ex.assignL 3 rfl (Ev.methN (.ref 165) (i:=2) rfl rfl (Meth.inst get_end (mo_OctetsIn_tag hG) rfl) (.fk hG rfl) (Args'.nil ?_)))
 refine in_tag hG (show 3≤C.rk - 1 by lia) get_end (by lia) hd ?_
 refine rwG (set_end ..) ?_
 refine Ex.cons (Ex.assignL 4 rfl (Ev.methN (.ref 160) (i:=2) rfl rfl (Meth.inst get_end (mo_OctetsIn_u32 hG) rfl) (.fk hG rfl) (Args'.nil ?_)))
 refine in_u32 hG (show 4≤C.rk - 1 by exact Nat.le_sub_one_of_lt hrk) get_end (by exact Int.zero_le_ofNat (w+4)) (by lia) hd ?_
 refine rwG (set_end ..) ?_
 refine Ex.cons (Ex.assignL 5 rfl (Ev.methN (.ref 160) (i:=2) rfl rfl (Meth.inst get_end (mo_OctetsIn_u32 hG) rfl) (.fk hG rfl) (Args'.nil ?_)))
 refine in_u32 hG (show 4≤C.rk - 1 by exact Nat.le_sub_one_of_lt hrk) get_end (by exact Int.zero_le_ofNat (w+4+4)) (by lia) hd ?_
 refine rwG (set_end ..) ?_
 refine Ex.cons (Ex.ret (Ev.callG (ns_Record hG) (.fk hG rfl) ?_))
 refine Args'.name (i:=3) rfl rfl (Args'.name (i:=4) rfl rfl (Args'.name (i:=5) rfl rfl (Args'.cons ?_)))
 refine Ev.methN (.ref 160) (i:=2) rfl rfl (Meth.inst get_end (mo_OctetsIn_u32 hG) rfl) (.fk hG rfl) (Args'.nil ?_)
 refine in_u32 hG (show 4≤C.rk - 1 by exact Nat.le_sub_one_of_lt hrk) get_end (by exact Int.zero_le_ofNat (w+4+4+4)) (by exact Int.toNat_le.mp h1) hd ?_
 refine rwG (set_end ..) ?_
 refine Args'.name (i:=1) rfl rfl (Args'.nil ?_)
 refine record_new hG (show 2≤C.rk - 1 by lia) ?_
 rw [List.take_left']
 ·exact h
 ·rfl
theorem need_in_order_spec (hG:G.frag=KF G.w.params)(hP:ProgOk G.prog)(hrk:2≤C.rk){rs:List Rec}{size:Int}(hz:rs.length≤1000)
  (h:((∀k r r',rs[k]?=some r→rs[k+1]?=some r'→r.1.cps.toList<r'.1.cps.toList)∧(∀r∈rs,r.2.2.1+r.2.2.2.1≤size)∧Q .none σ)∨(x∧ ∃r,rs[0]?=some r∧size<r.2.2.1+r.2.2.2.1)):
  CallP G C lv σ (.ref 333) [.lst (rs.map recA),.int size] Q x:=by
 refine CallP.intro (ok_need_in_order hG) rfl (by exact Nat.one_le_of_lt hrk) (len2 fun _ _=>rfl) ?_
 intro g L'
 refine Ex.cons (Ex.for ((List.range rs.length).map fun i=> .int ((0:Int)+(i:Nat)*1)) (fun k lv σ'=>σ'=σ∧(k=0∨ ¬ ∃r,rs[0]?=some r∧size<r.2.2.1+r.2.2.2.1)∧ ∃t u,lv= [some (.lst (rs.map recA)),some (.int size),t,u,none,none,none]) ?_ ?_ ?_)
 ·refine Ev.callB (ns_range hG) rfl Keeps.type (Args'.cons ?_)
  refine Ev.callB (ns_len hG) rfl Keeps.builtin (Args'.name (i:=0) rfl rfl (Args'.nil (CallP.lenL (Args'.nil ?_) (by rw [List.length_map];lia))))
  refine CallP.range1 ?_ (by exact Int.neg_ofNat_le_natCast (2^60) (List.map recA rs).length) (by rw [List.length_map];lia)
  refine ⟨?_,rfl,.inl rfl,none,none,rfl⟩
  have e:((rs.map recA).length:Int).toNat=rs.length:=List.length_map ..
  refine rwG (e ..) ?_
  exact .rng _ _ _
 ·rintro k v lv σ' hk ⟨rfl,hfst,t,u,rfl⟩
  obtain ⟨k',hk',rfl⟩:=map_at hk
  have hkn:k<rs.length:=by
   have:=(List.getElem?_eq_some_iff.mp hk').1
   simpa using this
  rw [List.getElem?_range hkn] at hk'
  cases hk'
  have e1:(0:Int)+(k:Nat)*1=(k:Int):=by lia
  refine rwG (e1 ..) ?_
  obtain ⟨r,hr⟩: ∃r,rs[k]?=some r:=⟨rs[k],List.getElem?_eq_getElem hkn⟩
  have hra:(rs.map recA)[k]?=some (recA r):=by rw [List.getElem?_map,hr];rfl
  refine Sto.nameL 2 rfl ?_
  refine Ex.cons (Ex.assignL 3 rfl (Ev.subNN (i:=0) (j:=2) rfl rfl rfl rfl (Item.list ?_ (by exact Int.natCast_nonneg k) (by lia) (by rw [show ((k:Nat):Int).toNat=k from rfl];exact hra))))
  refine Ex.cons (Ex.ite (Run.mono (Q:=fun b σ''=>b=false∧σ''=σ') ?_ ?_ id))
  ·refine Tst.boolop (All.and (Tst.cmpN (i:=2) rfl rfl (Ev.int (Cmp.gt ?_))))
   cases k with
   |zero=>
    refine rwG (decide_eq_false (by exact Int.lt_irrefl 0) ..) ?_;refine rwG (if_neg (by decide) ..) ?_
    exact ⟨rfl,rfl⟩
   |succ k=>
    refine rwG (decide_eq_true (by exact Int.ofNat_succ_pos k) ..) ?_;refine rwG (if_pos rfl ..) ?_
    obtain ⟨h1,h2,h3⟩:(∀k r r',rs[k]?=some r→rs[k+1]?=some r'→r.1.cps.toList<r'.1.cps.toList)∧(∀r∈rs,r.2.2.1+r.2.2.2.1≤size)∧Q .none σ':=by
     rcases h with h|h
     ·exact h
     ·rcases hfst with e|e
      ·cases e
      ·exact (e h.2).elim
    obtain ⟨r',hr'⟩: ∃r',rs[k]?=some r':=⟨rs[k],List.getElem?_eq_getElem (by exact Nat.lt_of_succ_lt hkn)⟩
    have hra':(rs.map recA)[k]?=some (recA r'):=by rw [List.getElem?_map,hr'];rfl
    refine All.and (Tst.cmp ?_)
    refine Ev.attr (Ev.subN (i:=0) rfl rfl (Ev.binNI (i:=2) rfl rfl (Bin.sub (Item.list (v:=recA r') ?_ (by lia) (by lia) (by rw [show (((k+1:Nat):Int) - 1).toNat=k from Int.toNat_sub (k+1) 1];exact hra')))))
    refine Attr.rcd (fo_Record_tag hG) rfl ?_
    refine Ev.attrN (i:=3) rfl rfl (Attr.rcd (fo_Record_tag hG) rfl (Cmp.geS ?_))
    refine rwG (decide_eq_true (h1 k r' r hr' hr) ..) ?_
    exact ⟨rfl,rfl⟩
  ·rintro b σ'' ⟨rfl,rfl⟩
   refine rwG (if_neg (by decide) ..) ?_
   refine Ex.nil (Ex.cons (Ex.ite (Tst.cmp ?_)))
   refine Ev.methN (.ref 305) (i:=3) rfl rfl (Meth.rcd (mo_Record_end hG) rfl) (.fk hG rfl) (Args'.nil ?_)
   refine record_end hG (show 1≤C.rk - 1 by exact Nat.le_sub_one_of_lt hrk) ?_
   refine Ev.name (i:=1) rfl rfl (Cmp.gt ?_)
   by_cases hb:size<r.2.2.1+r.2.2.2.1
   ·refine rwG (decide_eq_true hb ..) ?_;refine rwG (if_pos rfl ..) ?_
    obtain ⟨hx,_⟩:x∧True:=by
     rcases h with h|h
     ·exact absurd (h.2.1 r (List.mem_of_getElem? hr)) (by exact Int.not_le.mpr hb)
     ·exact ⟨h.1,trivial⟩
    refine Ex.cons (Ex.raise hG hP (show 1≤C.rk - 1 by exact Nat.le_sub_one_of_lt hrk) hx ?_)
    refine Args'.cons (Ev.str (Args'.cons (Ev.bin (Ev.attrN (i:=3) rfl rfl (Attr.rcd (fo_Record_where hG) rfl (Ev.int (Bin.add ?_)))))))
    exact Args'.nil (.two _ _)
   ·refine rwG (decide_eq_false hb ..) ?_;refine rwG (if_neg (by decide) ..) ?_
    refine Ex.nil (Ex.nil ⟨rfl,.inr ?_,_,_,rfl⟩)
    rintro ⟨r0,e0,hl⟩
    rcases h with h|h
    ·exact absurd (h.2.1 r0 (List.mem_of_getElem? e0)) (by exact Int.not_le.mpr hl)
    ·rcases hfst with rfl|hf
     ·rw [hr] at e0
      cases e0
      exact hb hl
     ·exact hf h.2
 ·rintro lv σ' ⟨rfl,hfst,t,u,rfl⟩
  refine Ex.nil ?_
  rcases h with h|h
  ·exact h.2.2
  ·rcases hfst with e|hf
   ·rw [List.length_map,List.length_range] at e
    obtain ⟨r,hr,_⟩:=h.2
    have:=(List.getElem?_eq_some_iff.mp hr).1
    lia
   ·exact (hf h.2).elim
end
section
variable {G:Gl}{C:Cx}{lv:List (Option AVal)}{σ:Own}{x:Prop}{Q:AVal→Own→Prop}
noncomputable def spans (rs:List Rec)(b e:Int):List Tri:=((rs.filter fun r=>decide (0<r.2.2.2.1)).map fun r=>(r.2.2.1,r.2.2.1+r.2.2.2.1,r.2.2.2.2))++ [(b,e,b)]
structure Apart (ts:List Tri):Prop where
 nodup:(ts.map (·.1)).Nodup
 apart: ∀t∈ts,∀u∈ts,t.1<u.1→t.2.1≤u.1
set_option maxHeartbeats 4000000 in
theorem need_apart_spec (hG:G.frag=KF G.w.params)(hrk:2≤C.rk){rs:List Rec}{b e:Int}(hz:rs.length≤3)(ha:Apart (spans rs b e))(h:Q .none σ):
  CallP G C lv σ (.ref 338) [.lst (rs.map recA),.int b,.int e] Q x:=by
 refine CallP.forget σ.length ?_
 refine CallP.intro (ok_need_apart hG) rfl (by exact Nat.one_le_of_lt hrk) (len3 fun _ _ _=>rfl) ?_
 intro g L'
 refine Ex.cons (Ex.assignCompO 3 [none,none] (rs.map recA) (fun k out σ'=>σ'=σ∧out=((((rs.take k).filter fun r=>decide (0<r.2.2.2.1)).map fun r=>((r.2.2.1,r.2.2.1+r.2.2.2.1,r.2.2.2.2):Tri)).map tri)) rfl rfl rfl ?_ ?_ ?_ (by rw [List.length_map];lia))
 ·exact Ev.name (i:=0) rfl rfl ⟨.lst _,rfl,rfl⟩
 ·rintro k w out σ' hk ⟨rfl,rfl⟩ cl Cc h0C oC
  obtain ⟨r,hr,rfl⟩:=map_at hk
  refine ⟨_,fun j w hw=>capNo (caps:= [none,none]) rfl hw,CTgt.name (i:=1) oC h0C rfl rfl (by decide),Tsts.one (Tst.cmp ?_)⟩
  refine Ev.attrN (i:=1) rfl rfl (Attr.rcd (fo_Record_length hG) rfl (Ev.int (Cmp.gt ?_)))
  by_cases hl:0<r.2.2.2.1
  ·refine rwG (decide_eq_true hl ..) ?_;refine rwG (if_pos rfl ..) ?_
   refine Ev.tuple (Args'.cons (Ev.attrN (i:=1) rfl rfl (Attr.rcd (fo_Record_begin hG) rfl ?_)))
   refine Args'.cons (Ev.methN (.ref 305) (i:=1) rfl rfl (Meth.rcd (mo_Record_end hG) rfl) (.fk hG rfl) (Args'.nil ?_))
   refine record_end hG (show 1≤C.rk - 1 by exact Nat.le_sub_one_of_lt hrk) ?_
   refine Args'.cons (Ev.attrN (i:=1) rfl rfl (Attr.rcd (fo_Record_where hG) rfl (Args'.nil ⟨Nat.le_of_ble_eq_true rfl,rfl,?_⟩)))
   refine rwG (List.take_add_one ..) ?_;refine rwG (hr ..) ?_;refine rwG (Option.toList_some ..) ?_;refine rwG (List.filter_append ..) ?_;refine rwG (List.map_append ..) ?_;refine rwG (List.map_append ..) ?_;refine rwG (List.filter_cons ..) ?_;refine rwG (decide_eq_true hl ..) ?_;refine rwG (if_pos rfl ..) ?_
   rfl
  ·refine rwG (decide_eq_false hl ..) ?_;refine rwG (if_neg (by decide) ..) ?_
   refine ⟨rfl,?_⟩
   refine rwG (List.take_add_one ..) ?_;refine rwG (hr ..) ?_;refine rwG (Option.toList_some ..) ?_;refine rwG (List.filter_append ..) ?_;refine rwG (List.map_append ..) ?_;refine rwG (List.map_append ..) ?_;refine rwG (List.filter_cons ..) ?_;refine rwG (decide_eq_false hl ..) ?_;refine rwG (if_neg (by decide) ..) ?_
   simp
 ·rintro D out σ' ⟨rfl,rfl⟩
  refine rwG (List.length_map ..) ?_;refine rwG (List.take_length ..) ?_
  refine Ex.cons (Ex.expr (Ev.methN (.builtin "list.append") (i:=3) rfl rfl (Meth.append get_end) (Keeps.builtin) (Args'.cons ?_)))
  refine Ev.tuple (Args'.name (i:=1) rfl rfl (Args'.name (i:=2) rfl rfl (Args'.name (i:=1) rfl rfl (Args'.nil ⟨Nat.le_of_ble_eq_true rfl,?_⟩))))
  have hfl:(rs.filter fun r=>decide (0<r.2.2.2.1)).length≤3:=Nat.le_trans (List.length_filter_le _ _) hz
  refine Args'.nil (CallP.append get_end (by rw [List.length_map,List.length_map];lia) ?_)
  refine rwG (set_end ..) ?_
  have es:(((rs.filter fun r=>decide (0<r.2.2.2.1)).map fun r=>((r.2.2.1,r.2.2.1+r.2.2.2.1,r.2.2.2.2):Tri)).map tri)++ [AVal.tup [.int b,.int e,.int b]]=(spans rs b e).map tri:=by
   unfold spans
   rw [List.map_append];rfl
  refine rwG (es ..) ?_
  have hl1:1≤(spans rs b e).length:=by unfold spans;simp
  have hl4:(spans rs b e).length≤4:=by unfold spans;simp;exact String.Pos.Raw.mk_le_mk.mp hfl
  revert ha hl1 hl4
  refine gen (spans rs b e) ?_
  intro ts ha hl1 hl4
  refine Ex.cons (Ex.assignL 3 rfl (Ev.callB (ns_sorted hG) rfl Keeps.builtin (Args'.name (i:=3) rfl rfl (Args'.nil ?_))))
  refine CallP.sortedT get_end hl1 hl4 ha.nodup fun ts' hp hs=>?_
  have hlen:=hp.length_eq
  refine Ex.cons (Ex.for ((List.range (ts'.length - 1)).map fun i=> .int ((1:Int)+(i:Nat)*1)) (fun k lv σ''=>σ''=σ'++ [(D,.list (ts.map tri))]∧ ∃t,lv= [some (.lst (rs.map recA)),some (.int b),some (.int e),some (.lst (ts'.map tri)),t,none,none,none,none]) ?_ ?_ ?_)
  ·refine Ev.callB (ns_range hG) rfl Keeps.type (Args'.int (Args'.cons ?_))
   refine Ev.callB (ns_len hG) rfl Keeps.builtin (Args'.name (i:=3) rfl rfl (Args'.nil (CallP.lenL (Args'.nil ?_) (by rw [List.length_map];lia))))
   refine CallP.range2 ?_ (by decide) (by decide) (by exact Int.neg_ofNat_le_natCast (2^60) (List.map tri ts').length) (by rw [List.length_map];lia)
   refine ⟨?_,rfl,none,rfl⟩
   have e1:(((ts'.map tri).length:Int) - 1).toNat=ts'.length - 1:=by rw [List.length_map];exact Int.toNat_sub _ 1
   refine rwG (e1 ..) ?_
   exact .rng _ _ _
  ·rintro k v lv σ'' hk ⟨rfl,t,rfl⟩
   obtain ⟨k',hk',rfl⟩:=map_at hk
   have hkn:k<ts'.length - 1:=by
    have:=(List.getElem?_eq_some_iff.mp hk').1
    simpa using this
   rw [List.getElem?_range hkn] at hk'
   cases hk'
   refine rwG (show (1:Int)+(k:Nat)*1=((k+1:Nat):Int) by lia) ?_
   obtain ⟨t0,ht0⟩: ∃r,ts'[k]?=some r:=⟨ts'[k],List.getElem?_eq_getElem (by exact Nat.lt_of_lt_pred hkn)⟩
   obtain ⟨t1,ht1⟩: ∃r,ts'[k+1]?=some r:=⟨ts'[k+1],List.getElem?_eq_getElem (by exact Nat.add_lt_of_lt_sub hkn)⟩
   have a0:(ts'.map tri)[k]?=some (tri t0):=by rw [List.getElem?_map,ht0];rfl
   have a1:(ts'.map tri)[k+1]?=some (tri t1):=by rw [List.getElem?_map,ht1];rfl
   have hle:=ha.apart t0 (hp.mem_iff.mp (List.mem_of_getElem? ht0)) t1 (hp.mem_iff.mp (List.mem_of_getElem? ht1)) (hs k t0 t1 ht0 ht1)
   refine Sto.nameL 4 rfl ?_
   refine Ex.cons (Ex.ite (Tst.cmp ?_))
   refine Ev.sub (Ev.subNN (i:=3) (j:=4) rfl rfl rfl rfl (Item.list (v:=tri t1) ?_ (by exact Int.natCast_nonneg (k+1)) (by lia) (by rw [show ((k+1:Nat):Int).toNat=k+1 from rfl];exact a1)))
   refine Ev.int (Item.tup ?_ (by decide) (by decide) rfl)
   refine Ev.sub (Ev.subN (i:=3) rfl rfl (Ev.binNI (i:=4) rfl rfl (Bin.sub (Item.list (v:=tri t0) ?_ (by lia) (by lia) (by rw [show (((k+1:Nat):Int) - 1).toNat=k from Int.toNat_sub (k+1) 1];exact a0)))))
   refine Ev.int (Item.tup ?_ (by decide) (by decide) rfl)
   refine Cmp.lt ?_
   refine rwG (decide_eq_false (by exact Int.not_lt_of_ge hle) ..) ?_;refine rwG (if_neg (by decide) ..) ?_
   exact Ex.nil (Ex.nil ⟨rfl,_,rfl⟩)
  ·rintro lv σ'' ⟨rfl,t,rfl⟩
   refine Ex.nil ?_
   rw [List.take_left']
   ·exact h
   ·rfl
end
theorem rk_le {m n a:Nat}(h:n≤a)(hm:m+1≤n:=by decide):m≤a - 1:=Nat.le_sub_of_add_le (Nat.le_trans hm h)
section
variable {G:Gl}{C:Cx}{lv:List (Option AVal)}{σ:Own}{x:Prop}{Q:AVal→Own→Prop}
theorem capSet {l:List (Option AVal)}{i:Nat}{v:AVal}(h:l[i]?=some none): ∀(j:Nat) (w:AVal),l[j]?=some (some w)→(l.set i (some v))[j]?=some (some w):=fun j w hw=>by
 by_cases e:i=j
 ·subst e;rw [h] at hw;cases hw
 ·rw [List.getElem?_set_ne e];exact hw
theorem capLv_none {caps:List (Option Nat)}{i:Nat}(h:caps[i]?=some none):(capLv lv caps)[i]?=some none:=by
 unfold capLv
 rw [List.getElem?_map,h];rfl
theorem CTurn.name {scope:Scope}{caps:List (Option Nat)}{elt:Expr}{ifs:List Expr}{Φ:Nat→List AVal→Own→Prop}{k:Nat}{v:AVal}{out:List AVal}{y:Str}{p:Pos}{nk:NameKind}(i:Nat)
  (hn: ∀cl Cc,(C.comp scope cl Cc).env.scope.names[i]?=some (y,nk)) (hk: ∀cl Cc,(C.comp scope cl Cc).env.kindOf y=some .local) (hc:caps[i]?=some none)
  (h: ∀cl Cc,Tsts G (C.comp scope cl Cc) ((capLv lv caps).set i (some v)) σ ifs (fun b σ'=>if b then Ev G (C.comp scope cl Cc) ((capLv lv caps).set i (some v)) σ' elt (fun w σ''=>Φ (k+1) (out++ [w]) σ'') False else Φ (k+1) out σ') False)
  (hd:(y==("__debug__":Str))=false:=by decide):CTurn G C lv scope caps (.Name y p) elt ifs Φ k v out σ:=fun cl Cc h0 oC=>
 ⟨_,capSet (capLv_none hc),CTgt.name oC h0 (hn cl Cc) (hk cl Cc) hd,h cl Cc⟩
noncomputable abbrev versions :List Int:= [65536,1330926671,1953658213]
theorem Ev.versions {pos:Pos}(hG:G.frag=KF G.w.params)(h:Q (.tup (Internal.versions.map .int)) σ)(hk:C.env.kindOf "VERSIONS"=some .globalImplicit:=by rfl):Ev G C lv σ (.Name "VERSIONS" pos) Q x:=
 Ev.globR (ns_VERSIONS hG) hk (fun K hK=> .tup (hK 284 _ (by rw [hG];rfl)) (.cons (.int _ _) (.cons (.int _ _) (.cons (.int _ _) .nil)))) h
noncomputable def verAt (d:List UInt8)(b:Int):Int:=numOf (cut d (some b) (some (b+4)))
noncomputable def cntAt (d:List UInt8)(b:Int):Int:=numOf (cut d (some (b+4)) (some (b+4+2)))
noncomputable def recsAt (d:List UInt8)(b:Nat)(n:Nat):List Rec:=(List.range n).map fun k=>recAt d ((b+12+k*16:Nat):Int)
structure ROk (d:List UInt8)(b n:Nat):Prop where
 ver:(versions.any (· ==verAt d b))=true
 cnt:cntAt d b=n
 few:n≤3
 room:b+12+16*n≤d.length
 asc: ∀k r r',(recsAt d b n)[k]?=some r→(recsAt d b n)[k+1]?=some r'→r.1.cps.toList<r'.1.cps.toList
 ends: ∀r∈recsAt d b n,r.2.2.1+r.2.2.2.1≤d.length
 apart:Apart (spans (recsAt d b n) b (b+(12+16*n)))
 nodup:((recsAt d b n).map (·.1)).Nodup
inductive RBad (d:List UInt8)(b n:Nat):Prop where
 |short (h:d.length<b+12)
 |ver (h:(versions.any (· ==verAt d b))=false)
 |dir (hc:cntAt d b=n) (h:d.length<b+12+16*n)
 |tab (hc:cntAt d b=n) (few:n≤3) (h: ∃r,(recsAt d b n)[0]?=some r∧(d.length:Int)<r.2.2.1+r.2.2.2.1)
theorem recsAt_length (d:List UInt8)(b n:Nat):(recsAt d b n).length=n:=by unfold recsAt;rw [List.length_map,List.length_range]
set_option maxHeartbeats 4000000 in
theorem read_records_spec (hG:G.frag=KF G.w.params)(hP:ProgOk G.prog)(hrk:6≤C.rk){d:List UInt8}{b n:Nat}(hd:d.length≤16777216)(hb:b≤16777216)
  (h:(ROk d b n∧Q (.tup [.int (verAt d b),.lst ((recsAt d b n).map recA)]) σ)∨(x∧RBad d b n)):
  CallP G C lv σ (.ref 343) [.bytes d,.int b] Q x:=by
 refine CallP.forget σ.length ?_
 refine CallP.intro (ok_read_records hG) rfl (Nat.le_trans (by decide) hrk) (len2 fun _ _=>rfl) ?_
 intro g L'
 refine Ex.cons (Ex.ite (Tst.cmp ?_))
 refine Ev.callB (ns_len hG) rfl Keeps.builtin (Args'.name (i:=0) rfl rfl (Args'.nil (CallP.lenB ?_ (Nat.le_trans hd (by decide)))))
 refine Ev.binN (i:=1) rfl rfl (Ev.globI (ns_HEADER_SIZE hG) (Bin.add (Cmp.lt ?_)))
 by_cases h1:d.length<b+12
 ·have hx:x:=by
   rcases h with ⟨o,_⟩|h
   ·have:=o.room;lia
   ·exact h.1
  refine rwG (decide_eq_true (by exact Int.lt_toNat.mp h1) ..) ?_;refine rwG (if_pos rfl ..) ?_
  refine Ex.cons (Ex.raise hG hP (show 1≤C.rk - 1 from rk_le hrk) hx (Args'.cons (Ev.str (Args'.cons ?_))))
  exact Ev.callB (ns_len hG) rfl Keeps.builtin (Args'.name (i:=0) rfl rfl (Args'.nil (CallP.lenB (Args'.nil (.two _ _)) (Nat.le_trans hd (by decide)))))
 refine rwG (decide_eq_false (by lia) ..) ?_;refine rwG (if_neg (by decide) ..) ?_
 refine Ex.nil (Ex.cons (Ex.assignL 2 rfl (Ev.callG (ns_u32_at hG) (.fk hG rfl) (Args'.name (i:=0) rfl rfl (Args'.name (i:=1) rfl rfl (Args'.nil ?_))))))
 refine u32_at_spec hG (show 3≤C.rk - 1 from rk_le hrk) (Int.natCast_nonneg b) (by lia) hd ?_
 refine Ex.cons (Ex.ite (Tst.cmpN (i:=2) rfl rfl (Ev.versions hG (Cmp.notInT ?_))))
 show if (!(versions.any (· ==verAt d b)))=true then _ else _
 cases h2:versions.any (· ==verAt d b)
 ·have hx:x:=by
   rcases h with ⟨o,_⟩|h
   ·have:=o.ver;rw [h2] at this;cases this
   ·exact h.1
  refine rwG (if_pos (by decide) ..) ?_
  exact Ex.cons (Ex.raise hG hP (show 1≤C.rk - 1 from rk_le hrk) hx (Args'.cons (Ev.str (Args'.name (i:=1) rfl rfl (Args'.nil (.two _ _))))))
 refine rwG (if_neg (by decide) ..) ?_
 obtain ⟨hc,h⟩:cntAt d b=n∧((ROk d b n∧Q (.tup [.int (verAt d b),.lst ((recsAt d b n).map recA)]) σ)∨(x∧(d.length<b+12+16*n∨n≤3∧ ∃r,(recsAt d b n)[0]?=some r∧(d.length:Int)<r.2.2.1+r.2.2.2.1))):=by
  rcases h with h|⟨hx,h|h|⟨hc,h⟩|⟨hc,f,h⟩⟩
  ·exact ⟨h.1.cnt,.inl h⟩
  ·exact absurd h h1
  ·rw [h2] at h;cases h
  ·exact ⟨hc,.inr ⟨hx,.inl h⟩⟩
  ·exact ⟨hc,.inr ⟨hx,.inr ⟨f,h⟩⟩⟩
 refine Ex.nil (Ex.cons (Ex.assignL 3 rfl (Ev.meth (.ref 139) (Ev.callG (ns_OctetsIn hG) (.fk hG rfl) ?_))))
 refine Args'.name (i:=0) rfl rfl (Args'.cons (Ev.binNI (i:=1) rfl rfl (Bin.add (Args'.nil ?_))))
 refine in_new hG (show 2≤C.rk - 1 from rk_le hrk) fun a=>⟨Meth.inst get_end (mo_OctetsIn_u16 hG) rfl,Keeps.fk hG rfl,Args'.nil ?_⟩
 refine in_u16 hG (show 4≤C.rk - 1 from rk_le hrk) get_end (by exact Int.zero_le_ofNat (b+4)) (by lia) hd ?_
 refine rwG (set_end ..) ?_
 show Ex _ _ ((([some (.bytes d),some (.int b),none,none,none,none,none,none,none,none,none,none,none,none,none,none,none]:List (Option AVal)).set 2 (some (.int (verAt d b)))).set 3 (some (.int (cntAt d b)))) _ _ _ _ _
 refine rwG (hc ..) ?_
 revert h
 refine genE (verAt d b) ?_
 intro ver hv h
 refine Ex.cons (Ex.assignL 4 rfl (Ev.binN (i:=1) rfl rfl (Ev.callG (ns_directory_size hG) (.fk hG rfl) (Args'.name (i:=3) rfl rfl (Args'.nil ?_)))))
 refine directory_size_spec hG (show 1≤C.rk - 1 from rk_le hrk) (Bin.add ?_)
 refine Ex.cons (Ex.ite (Tst.cmp ?_))
 refine Ev.callB (ns_len hG) rfl Keeps.builtin (Args'.name (i:=0) rfl rfl (Args'.nil (CallP.lenB ?_ (Nat.le_trans hd (by decide)))))
 refine Ev.name (i:=4) rfl rfl (Cmp.lt ?_)
 by_cases h3:d.length<b+12+16*n
 ·have hx:x:=by
   rcases h with ⟨o,_⟩|h
   ·exact absurd o.room (Nat.not_le_of_lt h3)
   ·exact h.1
  refine rwG (decide_eq_true (by lia) ..) ?_;refine rwG (if_pos rfl ..) ?_
  refine Ex.cons (Ex.raise hG hP (show 1≤C.rk - 1 from rk_le hrk) hx (Args'.cons (Ev.str (Args'.cons ?_))))
  exact Ev.callB (ns_len hG) rfl Keeps.builtin (Args'.name (i:=0) rfl rfl (Args'.nil (CallP.lenB (Args'.nil (.two _ _)) (Nat.le_trans hd (by decide)))))
 refine rwG (decide_eq_false (by lia) ..) ?_;refine rwG (if_neg (by decide) ..) ?_
 have few:n≤3:=by
  rcases h with h|⟨_,h|h⟩
  ·exact h.1.few
  ·exact absurd h h3
  ·exact h.1
 refine Ex.nil (Ex.cons (Ex.assignComp 5 [none,none,none,some 0] ((List.range n).map fun i=> .int ((b:Int)+12+(i:Nat)*16)) (fun k out σ'=>σ'=σ++ [(a,inObj d (b+4+2))]∧out=((recsAt d b n).take k).map recA) rfl rfl rfl ?_ ?_ ?_ ?_))
 ·refine Ev.callB (ns_range hG) rfl Keeps.type (Args'.cons (Ev.binN (i:=1) rfl rfl (Ev.globI (ns_HEADER_SIZE hG) (Bin.add (Args'.name (i:=4) rfl rfl (Args'.cons (Ev.globI (ns_RECORD_SIZE hG) (Args'.nil ?_))))))))
  refine CallP.range3 n ⟨.rng _ _ _,rfl,rfl⟩ ?_ (by exact Int.neg_ofNat_le_ofNat (2^60) (b+12)) (by lia) (by exact Int.neg_ofNat_le_ofNat (2^60) (b+(12+16*n))) (by lia) (by decide) (by decide) (by decide) (by lia)
  unfold Builtin.Range.rangeSize
  simp only [show (16:Int)>0 by decide,if_true]
  split<;>lia
 ·rintro k w out σ' hk ⟨rfl,rfl⟩
  obtain ⟨k',hk',rfl⟩:=map_at hk
  have hkn:k<n:=by
   have:=(List.getElem?_eq_some_iff.mp hk').1
   rwa [List.length_range] at this
  rw [List.getElem?_range hkn] at hk'
  cases hk'
  refine CTurn.name 1 (fun _ _=>rfl) (fun _ _=>rfl) rfl fun cl Cc=>Tsts.nil ?_
  show Ev _ _ _ _ _ _ _
  refine Ev.call (Ev.glob (hk:=comp_kind rfl rfl) (ns_read_record hG) ⟨_,rfl,Keeps.fk hG rfl,Args'.name (i:=3) rfl rfl (Args'.name (i:=1) rfl rfl (Args'.nil ?_))⟩)
  have e1:(b:Int)+12+(k:Nat)*16=((b+12+k*16:Nat):Int):=by exact Int.mem_toNat?.mp rfl
  refine rwG (e1 ..) ?_
  refine read_record_spec hG (show 5≤C.rk - 1 from rk_le hrk) (by lia) hd ⟨rfl,?_⟩
  have e2:(recsAt d b n)[k]?=some (recAt d ((b+12+k*16:Nat):Int)):=by
   unfold recsAt
   rw [List.getElem?_map,List.getElem?_range hkn];rfl
  rw [List.take_add_one,e2,Option.toList_some,List.map_append];rfl
 ·rintro out σ' ⟨rfl,rfl⟩
  have e3:(recsAt d b n).take (List.map (fun i=>AVal.int ((b:Int)+12+(i:Nat)*16)) (List.range n)).length=recsAt d b n:=by
   refine rwG (List.length_map ..) ?_;refine rwG (List.length_range ..) ?_
   exact List.take_of_length_le (Nat.le_of_eq (recsAt_length d b n))
  refine rwG (e3 ..) ?_
  have hl:(recsAt d b n).length≤3:=by rw [recsAt_length];exact few
  refine Ex.cons (Ex.expr (Ev.callG (ns_need_in_order hG) (.fk hG rfl) (Args'.name (i:=5) rfl rfl (Args'.cons ?_))))
  refine Ev.callB (ns_len hG) rfl Keeps.builtin (Args'.name (i:=0) rfl rfl (Args'.nil (CallP.lenB (Args'.nil ?_) (Nat.le_trans hd (by decide)))))
  have few':(recsAt d b n).length≤1000:=Nat.le_trans hl (by decide)
  rcases h with ⟨o,h⟩|⟨hx,h|⟨_,h⟩⟩
  ·refine need_in_order_spec hG hP (show 2≤C.rk - 1 from rk_le hrk) few' (.inl ⟨o.asc,o.ends,?_⟩)
   refine Ex.cons (Ex.expr (Ev.callG (ns_need_apart hG) (.fk hG rfl) (Args'.name (i:=5) rfl rfl (Args'.name (i:=1) rfl rfl (Args'.name (i:=4) rfl rfl (Args'.nil ?_))))))
   refine need_apart_spec hG (show 2≤C.rk - 1 from rk_le hrk) hl o.apart ?_
   refine Ex.cons (Ex.ret (Ev.tuple (Args'.name (i:=2) rfl rfl (Args'.name (i:=5) rfl rfl (Args'.nil ⟨Nat.le_of_ble_eq_true rfl,?_⟩)))))
   refine rwG (List.take_left' rfl ..) ?_
   exact h
  ·exact absurd h h3
  ·exact need_in_order_spec hG hP (show 2≤C.rk - 1 from rk_le hrk) few' (.inr ⟨hx,h⟩)
 ·rw [List.length_map,List.length_range];exact Nat.le_trans few (by decide)
noncomputable def tabOf (d:List UInt8)(rs:List Rec):List (Str×List UInt8):=rs.map fun r=>(r.1,cut d (some r.2.2.1) (some (r.2.2.1+r.2.2.2.1)))
theorem put_new {κ α:Type} [DecidableEq κ]: ∀(l acc:List (κ×α)),((acc++l).map (·.1)).Nodup→l.foldl (fun m p=>put m p.1 p.2) acc=acc++l
 | [],acc,_=>by rw [List.append_nil];rfl
 |p::r,acc,h=>by
  have e:put acc p.1 p.2=acc++ [p]:=by
   unfold put
   rw [if_neg]
   intro hh
   obtain ⟨q,hq,e⟩:=List.any_eq_true.mp hh
   rw [List.map_append,List.map_cons] at h
   exact (List.nodup_append.mp h).2.2 q.1 (List.mem_map_of_mem hq) p.1 List.mem_cons_self (of_decide_eq_true e)
  refine rwG (List.foldl_cons ..) ?_;refine rwG (e ..) ?_;refine rwG (put_new r (acc++ [p]) (by rw [List.append_assoc];exact h) ..) ?_;refine rwG (List.append_assoc ..) ?_
  rfl
theorem tables_of_spec (hG:G.frag=KF G.w.params)(hrk:2≤C.rk){d:List UInt8}{rs:List Rec}(hd:d.length≤16777216)(hz:rs.length≤3)(hn:(rs.map (·.1)).Nodup)(h:Q (.dS (tabA (tabOf d rs))) σ):
  CallP G C lv σ (.ref 348) [.bytes d,.lst (rs.map recA)] Q x:=by
 refine CallP.intro (ok_tables_of hG) rfl (Nat.le_trans (by decide) hrk) (len2 fun _ _=>rfl) ?_
 intro g L'
 refine Ex.cons (Ex.ret (Ev.callB (ns_dict hG) rfl Keeps.type (Args'.cons ?_)))
 refine Ev.comp [none,none,some 0] (rs.map recA) (fun k out σ'=>σ'=σ∧out=(tabA (tabOf d (rs.take k))).map fun p=> .tup [.str p.1,p.2]) (Ev.name (i:=1) rfl rfl ⟨.lst _,rfl,rfl⟩) ?_ ?_ (by rw [List.length_map];exact Nat.le_trans hz (by decide))
 ·rintro k w out σ' hk ⟨rfl,rfl⟩
  obtain ⟨r,hr,rfl⟩:=map_at hk
  refine CTurn.name 1 (fun _ _=>rfl) (fun _ _=>rfl) rfl fun cl Cc=>Tsts.nil ?_
  show Ev _ _ _ _ _ _ _
  refine Ev.tuple (Args'.cons (Ev.attrN (i:=1) rfl rfl (Attr.rcd (fo_Record_tag hG) rfl (Args'.cons ?_))))
  refine Ev.sliceBN (i:=2) rfl rfl hd (EvP.some (Ev.attrN (i:=1) rfl rfl (Attr.rcd (fo_Record_begin hG) rfl ⟨_,rfl,EvP.some ?_⟩)))
  refine Ev.methN (.ref 305) (i:=1) rfl rfl (Meth.rcd (mo_Record_end hG) rfl) (.fk hG rfl) (Args'.nil ?_)
  refine record_end hG (show 1≤C.rk - 1 from rk_le hrk) ⟨_,rfl,Args'.nil ⟨Nat.le_of_ble_eq_true rfl,rfl,?_⟩⟩
  refine rwG (List.take_add_one ..) ?_;refine rwG (hr ..) ?_;refine rwG (Option.toList_some ..) ?_
  unfold tabOf tabA
  rw [List.map_append,List.map_append,List.map_append];rfl
 ·rintro out σ' ⟨rfl,rfl⟩
  refine rwG (List.length_map ..) ?_;refine rwG (List.take_length ..) ?_
  refine Args'.nil (CallP.dictP (by unfold tabOf tabA;rw [List.length_map,List.length_map];exact Nat.le_trans hz (by decide)) ?_)
  have e:((tabA (tabOf d rs)).map (·.1)).Nodup:=by
   refine rwG (tab_keys ..) ?_
   unfold tabOf
   rw [List.map_map];exact hn
  refine rwG (put_new _ [] e ..) ?_
  exact h
end
section
variable {σ:Own}{p q p':Addr×OObj}
theorem get_two1 :(σ++ [p,q])[σ.length]?=some p:=by simp
theorem get_two2 :(σ++ [p,q])[σ.length+1]?=some q:=by simp
theorem set_two1 :(σ++ [p,q]).set σ.length p'=σ++ [p',q]:=by simp
theorem set_two2 :(σ++ [p,q]).set (σ.length+1) p'=σ++ [p,p']:=by simp
theorem take_two (n:Nat)(h:n=σ.length):((σ++ [p,q]).eraseIdx (σ.length+1)).take n=σ:=by subst h;simp [List.eraseIdx_append_of_length_le]
theorem app_two :σ++ [p]++ [q]=σ++ [p,q]:=List.append_assoc ..
end
section
variable {G:Gl}{C:Cx}{lv:List (Option AVal)}{σ:Own}{x:Prop}{Q:AVal→Own→Prop}
noncomputable def num4 (d:List UInt8)(i:Nat):Int:=numOf (cut d (some (i:Int)) (some ((i:Int)+4)))
noncomputable abbrev isColl (d:List UInt8):Bool:=decide (12≤d.length)&&num4 d 0==1953784678
noncomputable abbrev Dir :=Nat×Nat
noncomputable abbrev dirA (d:List UInt8)(p:Dir):AVal:=fontA (verAt d p.1,tabOf d (recsAt d p.1 p.2))
structure CRun (d:List UInt8)(n:Nat)(ds:List Dir):Prop where
 is:isColl d=true
 ver:(([65536,131072]:List Int).any (· ==num4 d 4))=true
 cnt:num4 d 8=n
 pos:0<n
 most:n≤64
 room:12+4*n≤d.length
 few:ds.length≤n
 dirs: ∀k p,ds[k]?=some p→num4 d (12+4*k)=p.1∧p.1≤16777216∧ROk d p.1 p.2
inductive CBad (d:List UInt8):Prop where
 |no (h:isColl d=false)
 |ver (h:(([65536,131072]:List Int).any (· ==num4 d 4))=false)
 |many (h: ¬(0<num4 d 8∧num4 d 8≤64)∨(d.length:Int)<12+4*num4 d 8)
 |font {n:Nat}{ds:List Dir}(h:CRun d n ds) (h1:ds.length<n) {b m:Nat}(h2:num4 d (12+4*ds.length)=b) (h3:b≤16777216) (h4:RBad d b m)
noncomputable def lv18 (d:List UInt8)(a:Addr)(n:Nat)(f:Addr)(t:Nat→Option AVal):List (Option AVal):= [some (.bytes d),some (.ref a),some (.int n),some (.ref f),t 4,t 5,t 6,none,none,none,none,none,none,none,none,none]
noncomputable def Ph18 (d:List UInt8)(σ:Own)(a f:Addr)(n:Nat)(ds:List Dir)(k:Nat)(lv:List (Option AVal))(σ':Own):Prop:=k≤ds.length∧At (lv18 d a n f) (σ++ [(a,inObj d ((12+4*k:Nat):Int)),(f,.list ((ds.take k).map (dirA d)))]) lv σ'
set_option maxHeartbeats 4000000 in
theorem read_collection_spec (hG:G.frag=KF G.w.params)(hP:ProgOk G.prog)(hrk:7≤C.rk){d:List UInt8}(hd:d.length≤16777216)
  (h:(∃ds,CRun d ds.length ds∧Q (.lst (ds.map (dirA d))) σ)∨(x∧CBad d)):
  CallP G C lv σ (.ref 362) [.bytes d] Q x:=by
 refine CallP.forget σ.length ?_
 refine CallP.intro (ok_read_collection hG) rfl (Nat.le_trans (by decide) hrk) (len1 fun _=>rfl) ?_
 intro g L'
 refine Ex.cons (Ex.ite (Tst.not (Tst.val (Ev.callG (ns_is_collection hG) (.fk hG rfl) (Args'.name (i:=0) rfl rfl (Args'.nil ?_))))))
 refine is_collection_spec hG (show 4≤C.rk - 1 from rk_le hrk) hd ⟨_,rfl,?_⟩
 show if (!(isColl d))=true then _ else _
 cases h1:isColl d
 ·have hx:x:=by
   rcases h with ⟨_,o,_⟩|h
   ·have:=o.is;rw [h1] at this;cases this
   ·exact h.1
  refine rwG (if_pos (by decide) ..) ?_
  exact Ex.cons (Ex.raise hG hP (show 1≤C.rk - 1 from rk_le hrk) hx (Args'.cons (Ev.str (Args'.int (Args'.nil (.two _ _))))))
 refine rwG (if_neg (by decide) ..) ?_
 have hl:12≤d.length:=of_decide_eq_true (Bool.and_eq_true_iff.mp h1).1
 refine Ex.nil (Ex.cons (Ex.assignL 1 rfl (Ev.callG (ns_OctetsIn hG) (.fk hG rfl) (Args'.name (i:=0) rfl rfl (Args'.int (Args'.nil ?_))))))
 refine in_new hG (show 2≤C.rk - 1 from rk_le hrk) fun a=>?_
 refine Ex.cons (Ex.ite (Tst.cmp (Ev.methN (.ref 160) (i:=1) rfl rfl (Meth.inst get_end (mo_OctetsIn_u32 hG) rfl) (.fk hG rfl) (Args'.nil ?_))))
 refine in_u32 hG (show 4≤C.rk - 1 from rk_le hrk) get_end (by decide) (by omega) hd ?_
 refine rwG (set_end ..) ?_
 refine Ev.tuple (Args'.int (Args'.int (Args'.nil ⟨Nat.le_of_ble_eq_true rfl,Cmp.notInT (ns:= [65536,131072]) ?_⟩)))
 show if (!(([65536,131072]:List Int).any (· ==num4 d 4)))=true then _ else _
 cases h2:([65536,131072]:List Int).any (· ==num4 d 4)
 ·have hx:x:=by
   rcases h with ⟨_,o,_⟩|h
   ·have:=o.ver;rw [h2] at this;cases this
   ·exact h.1
  refine rwG (if_pos (by decide) ..) ?_
  exact Ex.cons (Ex.raise hG hP (show 1≤C.rk - 1 from rk_le hrk) hx (Args'.cons (Ev.str (Args'.int (Args'.nil (.two _ _))))))
 refine rwG (if_neg (by decide) ..) ?_
 refine Ex.nil (Ex.cons (Ex.assignL 2 rfl (Ev.methN (.ref 160) (i:=1) rfl rfl (Meth.inst get_end (mo_OctetsIn_u32 hG) rfl) (.fk hG rfl) (Args'.nil ?_))))
 refine in_u32 hG (show 4≤C.rk - 1 from rk_le hrk) get_end (by decide) (by exact Int.toNat_le.mp hl) hd ?_
 refine rwG (set_end ..) ?_
 show Ex _ _ ((([some (.bytes d),none,none,none,none,none,none,none,none,none,none,none,none,none,none,none]:List (Option AVal)).set 1 (some (.ref a))).set 2 (some (.int (num4 d 8)))) _ _ _ _ _
 refine genE (num4 d 8) ?_
 intro c hc
 have e12:(4:Int)+4+4=((12+4*0:Nat):Int):=rfl
 refine rwG (e12 ..) ?_
 refine Ex.cons (Ex.ite (Run.mono (Q:=fun b σ'=>σ'=σ++ [(a,inObj d ((12+4*0:Nat):Int))]∧b=(!(decide (0<c)&&decide (c≤64))||decide ((d.length:Int)<12+4*c))) ?_ ?_ id))
 ·refine Tst.boolop (All.or (Tst.not (Tst.chain (Ev.int (Ev.name (i:=2) rfl rfl (Cmp.lt ?_))))))
  by_cases h3:0<c
  ·refine rwG (decide_eq_true h3 ..) ?_;refine rwG (if_pos rfl ..) ?_
   refine Ev.globI (ns_MOST_FONTS hG) (Cmp.le ?_)
   by_cases h4:c≤64
   ·refine rwG (decide_eq_true h4 ..) ?_;refine rwG (if_neg (by decide) ..) ?_
    refine All.or (Tst.cmp (Ev.callB (ns_len hG) rfl Keeps.builtin (Args'.name (i:=0) rfl rfl (Args'.nil (CallP.lenB ?_ (Nat.le_trans hd (by decide)))))))
    refine Ev.bin (Ev.globI (ns_HEADER_SIZE hG) (Ev.binI (Ev.name (i:=2) rfl rfl (Bin.mulL (Bin.add (Cmp.lt ?_)) (by decide) (by decide)))))
    by_cases h5:(d.length:Int)<12+4*c
    ·rw [decide_eq_true h5,if_pos rfl];exact ⟨rfl,rfl⟩
    ·rw [decide_eq_false h5,if_neg (by decide)];exact All.or_nil ⟨rfl,rfl⟩
   ·refine rwG (decide_eq_false h4 ..) ?_;refine rwG (if_pos (by decide) ..) ?_
    exact ⟨rfl,rfl⟩
  ·refine rwG (decide_eq_false h3 ..) ?_;refine rwG (if_neg (by decide) ..) ?_;refine rwG (if_pos (by decide) ..) ?_
   exact ⟨rfl,rfl⟩
 rintro bb σ' ⟨rfl,rfl⟩
 by_cases h6:(0<c∧c≤64)∧12+4*c≤d.length
 ·obtain ⟨⟨h3,h4⟩,h5⟩:=h6
  refine rwG (decide_eq_true h3 ..) ?_;refine rwG (decide_eq_true h4 ..) ?_;refine rwG (decide_eq_false (Int.not_lt.mpr h5) ..) ?_;refine rwG (if_neg (by decide) ..) ?_
  obtain ⟨n,rfl⟩: ∃n:Nat,c=n:=⟨c.toNat,(Int.toNat_of_nonneg (Int.le_of_lt h3)).symm⟩
  obtain ⟨ds,R,h⟩: ∃ds,CRun d n ds∧((ds.length=n∧Q (.lst (ds.map (dirA d))) σ)∨(x∧ds.length<n∧ ∃b m:Nat,num4 d (12+4*ds.length)=b∧b≤16777216∧RBad d b m)):=by
   rcases h with ⟨ds,R,h⟩|⟨hx,h|h|h| @⟨n',ds,R,e1,b,m,e2,e3,e4⟩⟩
   ·have e:ds.length=n:=by have:=R.cnt;omega
    exact ⟨ds,e▸R,.inl ⟨e,h⟩⟩
   ·rw [h1] at h;cases h
   ·rw [h2] at h;cases h
   ·rw [hc] at h;omega
   ·have e:n'=n:=by have:=R.cnt;omega
    subst e
    exact ⟨ds,R,.inr ⟨hx,e1,b,m,e2,e3,e4⟩⟩
  refine Ex.nil (Ex.cons (Ex.assignL 3 rfl (Ev.listOwn (Args'.nil ⟨Nat.le_of_ble_eq_true rfl,fun f=>?_⟩))))
  refine rwG (app_two ..) ?_
  refine Ex.cons (Ex.for ((List.range n).map fun i=> .int ((0:Int)+(i:Nat)*1)) (Ph18 d σ a f n ds) ?_ ?_ ?_)
  ·refine Ev.callB (ns_range hG) rfl Keeps.type (Args'.name (i:=2) rfl rfl (Args'.nil ?_))
   refine CallP.range1 ⟨.rng _ _ _,Nat.zero_le _,rfl,rfl⟩ (by exact Int.neg_ofNat_le_natCast (2^60) n) (by omega)
  ·rintro k w lv σ' hk ⟨hkd,e⟩
   refine stE e fun t=>?_
   obtain ⟨k',hk',rfl⟩:=map_at hk
   have hkn:k<n:=by
    have:=(List.getElem?_eq_some_iff.mp hk').1
    rwa [List.length_range] at this
   refine Sto.nameL 4 rfl ?_
   refine Ex.cons (Ex.assignT (Ev.callG (ns_read_records hG) (.fk hG rfl) (Args'.name (i:=0) rfl rfl (Args'.cons ?_))))
   refine Ev.methN (.ref 160) (i:=1) rfl rfl (Meth.inst get_two1 (mo_OctetsIn_u32 hG) rfl) (.fk hG rfl) (Args'.nil ?_)
   refine in_u32 hG (show 4≤C.rk - 1 from rk_le hrk) get_two1 (Int.natCast_nonneg _) (by omega) hd ?_
   refine rwG (set_two1 ..) ?_
   refine Args'.nil ?_
   show CallP _ _ _ _ _ [.bytes d,.int (num4 d (12+4*k))] _ _
   rcases Nat.lt_or_ge k ds.length with hlt|hge
   ·obtain ⟨p,hp⟩: ∃p,ds[k]?=some p:=⟨ds[k],List.getElem?_eq_getElem hlt⟩
    obtain ⟨r1,r2,r3⟩:=R.dirs k p hp
    refine rwG (r1 ..) ?_
    refine read_records_spec hG hP (show 6≤C.rk - 1 from rk_le hrk) hd r2 (n:=p.2) (.inl ⟨r3,?_⟩)
    refine Sto.tuple rfl (Stos.name 5 rfl (Stos.name 6 rfl (Stos.nil ?_)))
    refine Ex.cons (Ex.expr (Ev.methN (.builtin "list.append") (i:=3) rfl rfl (Meth.append get_two2) (Keeps.builtin) (Args'.cons ?_)))
    refine Ev.tuple (Args'.name (i:=5) rfl rfl (Args'.cons (Ev.callG (ns_tables_of hG) (.fk hG rfl) (Args'.name (i:=0) rfl rfl (Args'.name (i:=6) rfl rfl (Args'.nil ?_))))))
    refine tables_of_spec hG (show 2≤C.rk - 1 from rk_le hrk) hd (by rw [recsAt_length];exact r3.few) r3.nodup ?_
    refine Args'.nil ⟨Nat.le_of_ble_eq_true rfl,Args'.nil (CallP.append get_two2 ?_ ?_)⟩
    ·rw [List.length_map,List.length_take];exact Nat.le_trans (Nat.min_le_left _ _) (by omega)
    ·refine rwG (set_two2 ..) ?_
     refine Ex.nil ⟨hlt,rfl,?_⟩
     refine rwG (List.take_add_one ..) ?_;refine rwG (hp ..) ?_;refine rwG (Option.toList_some ..) ?_;refine rwG (List.map_append ..) ?_
     rfl
   ·have e:k=ds.length:=Nat.le_antisymm hkd hge
    rcases h with ⟨h,_⟩|⟨hx,_,b,m,e2,e3,e4⟩
    ·omega
    ·refine rwG (e ..) ?_;refine rwG (e2 ..) ?_
     exact read_records_spec hG hP (show 6≤C.rk - 1 from rk_le hrk) hd e3 (n:=m) (.inr ⟨hx,e4⟩)
  ·rintro lv σ' ⟨hkd,e⟩
   refine stE e fun t=>?_
   rw [List.length_map,List.length_range] at hkd⊢
   refine Ex.cons (Ex.ret (Ev.nameFz (i:=3) (σ.length+1) rfl rfl get_two2 (.list _) ?_))
   refine rwG (take_two _ rfl ..) ?_
   rcases h with ⟨e,h⟩|⟨_,h,_⟩
   ·rw [List.take_of_length_le (Nat.le_of_eq e)];exact h
   ·exact absurd hkd (Nat.not_le_of_lt h)
 ·have hx:x:=by
   rcases h with ⟨ds,R,_⟩|h
   ·have h1:=R.cnt
    have h2:=R.pos
    have h3:=R.most
    have h4:=R.room
    exact absurd (by omega) h6
   ·exact h.1
  have e:(!(decide (0<c)&&decide (c≤64))||decide ((d.length:Int)<12+4*c))=true:=by
   refine rwGr (Bool.not_eq_false ..) ?_
   intro q
   rw [Bool.or_eq_false_iff,Bool.not_eq_false',Bool.and_eq_true_iff] at q
   exact h6 ⟨⟨of_decide_eq_true q.1.1,of_decide_eq_true q.1.2⟩,Int.not_lt.mp (of_decide_eq_false q.2)⟩
  refine rwG (e ..) ?_;refine rwG (if_pos rfl ..) ?_
  exact Ex.cons (Ex.raise hG hP (show 1≤C.rk - 1 from rk_le hrk) hx (Args'.cons (Ev.str (Args'.int (Args'.nil (.two _ _))))))
end
noncomputable def tabGet (t:List (Str×List UInt8))(y:Str):List UInt8:=(at' t y).getD []
noncomputable def tags (f:Font):List Str:=tagSort (f.2.map (·.1))
noncomputable abbrev Item' :=Str×List UInt8
noncomputable def items (f:Font):List Item':=(tags f).map fun y=>(y,tabGet f.2 y)
noncomputable abbrev Row :=Str×List UInt8×Int
noncomputable def spotOf (b:Int)(ps:List (List UInt8))(i:Nat):Int:=b+(((ps.take i).map fill).flatten.length:Int)
noncomputable def freeP (ps:List (List UInt8))(tk:List Nat)(o:List UInt8)(i:Nat):Bool:=(ps[i]?.getD []==o)&&!((tk.map fun (j:Nat)=>(j:Int)).any (· ==(i:Int)))
noncomputable def frees' (ps:List (List UInt8))(tk:List Nat)(o:List UInt8):List Nat:=(List.range ps.length).filter (freeP ps tk o)
noncomputable def pick (ps:List (List UInt8))(tk:List Nat)(o:List UInt8):Nat:=(frees' ps tk o).head?.getD ps.length
noncomputable def grow (ps:List (List UInt8))(i:Nat)(o:List UInt8):List (List UInt8):=if i<ps.length then ps else ps++ [o]
set_option genSizeOf false in
set_option genInjectivity false in
structure St where
 ps:List (List UInt8)
 tk:List Nat
 rows:List Row
noncomputable def stepF (b:Int)(s:St)(p:Item'):St:=
 ⟨grow s.ps (pick s.ps s.tk p.2) p.2,s.tk++ [pick s.ps s.tk p.2],s.rows++ [(p.1,p.2,spotOf b (grow s.ps (pick s.ps s.tk p.2) p.2) (pick s.ps s.tk p.2))]⟩
set_option genSizeOf false in
set_option genInjectivity false in
structure Ft where
 ps:List (List UInt8)
 rows:List (Int×List Row)
noncomputable def stepG (b:Int)(F:Ft)(f:Font):Ft:=let s:=(items f).foldl (stepF b) ⟨F.ps,[],[]⟩;⟨s.ps,F.rows++ [(f.1,s.rows)]⟩
noncomputable def plan (b:Int)(fs:List Font):Ft:=fs.foldl (stepG b) ⟨[],[]⟩
theorem spotOf_snoc {b:Int}{ps:List (List UInt8)}{o:List UInt8}{i:Nat}(h:i≤ps.length):spotOf b (ps++ [o]) i=spotOf b ps i:=by
 unfold spotOf
 rw [List.take_append_of_le_length h]
theorem spotOf_end (b:Int)(ps:List (List UInt8))(o:List UInt8):spotOf b (ps++ [o]) (ps.length+1)=spotOf b ps ps.length+((fill o).length:Int):=by
 unfold spotOf
 rw [List.take_of_length_le (by simp),List.take_of_length_le (Nat.le_refl _),List.map_append,List.flatten_append,List.length_append,Int.natCast_add,Int.add_assoc]
 simp
theorem spotOf_zero (b:Int)(ps:List (List UInt8)):spotOf b ps 0=b:=by simp [spotOf]
theorem frees_mem {ps:List (List UInt8)}{tk:List Nat}{o:List UInt8}{i:Nat}(h:i∈frees' ps tk o):i<ps.length∧ps[i]?=some o∧i∉tk:=by
 unfold frees' at h
 obtain ⟨h1,h2⟩:=List.mem_filter.mp h
 have hi:=List.mem_range.mp h1
 unfold freeP at h2
 obtain ⟨h3,h4⟩:=Bool.and_eq_true_iff.mp h2
 rw [List.getElem?_eq_getElem hi,Option.getD_some,beq_iff_eq] at h3
 refine ⟨hi,by rw [List.getElem?_eq_getElem hi,h3],fun q=>?_⟩
 rw [Bool.not_eq_true'] at h4
 have:((tk.map fun (j:Nat)=>(j:Int)).any (· ==(i:Int)))=true:=List.any_eq_true.mpr ⟨(i:Int),List.mem_map.mpr ⟨i,q,rfl⟩,beq_self_eq_true _⟩
 rw [h4] at this;cases this
theorem pick_cases (ps:List (List UInt8))(tk:List Nat)(o:List UInt8):(frees' ps tk o= []∧pick ps tk o=ps.length∧grow ps (pick ps tk o) o=ps++ [o])∨
  (∃i r,frees' ps tk o=i::r∧pick ps tk o=i∧i<ps.length∧ps[i]?=some o∧i∉tk∧grow ps (pick ps tk o) o=ps):=by
 cases e:frees' ps tk o with
 |nil=>
  have hp:pick ps tk o=ps.length:=by unfold pick;rw [e];rfl
  exact .inl ⟨rfl,hp,by rw [hp];exact if_neg (Nat.lt_irrefl _)⟩
 |cons i r=>
  have hp:pick ps tk o=i:=by unfold pick;rw [e];rfl
  obtain ⟨h1,h2,h3⟩:=frees_mem (e▸List.mem_cons_self:i∈frees' ps tk o)
  exact .inr ⟨i,r,rfl,hp,h1,h2,h3,by rw [hp];exact if_pos h1⟩
theorem grow_len (ps:List (List UInt8))(i:Nat)(o:List UInt8):(grow ps i o).length≤ps.length+1:=by
 unfold grow
 split
 ·exact Nat.le_succ _
 ·simp
theorem foldl_ps_len (b:Int): ∀(l:List Item') (s:St),(l.foldl (stepF b) s).ps.length≤s.ps.length+l.length
 | [],s=>Nat.le_refl _
 |p::r,s=>by
  have h:=foldl_ps_len b r (stepF b s p)
  have h2:=grow_len s.ps (pick s.ps s.tk p.2) p.2
  rw [List.foldl_cons,List.length_cons]
  exact Nat.le_trans h (by rw [Nat.add_comm r.length 1,←Nat.add_assoc];exact Nat.add_le_add_right h2 _)
theorem tags_le (f:Font):(tags f).length≤3:=by
 unfold tags tagSort
 exact List.length_filter_le _ _
theorem items_length (f:Font):(items f).length=(tags f).length:=List.length_map ..
theorem plan_ps_len (b:Int): ∀(l:List Font) (F:Ft),(l.foldl (stepG b) F).ps.length≤F.ps.length+3*l.length
 | [],F=>Nat.le_refl _
 |f::r,F=>by
  have h:=plan_ps_len b r (stepG b F f)
  have h2:(stepG b F f).ps.length≤F.ps.length+3:=Nat.le_trans (foldl_ps_len b (items f) ⟨F.ps,[],[]⟩) (by rw [items_length];exact Nat.add_le_add_left (tags_le f) _)
  rw [List.foldl_cons,List.length_cons,Nat.mul_succ,Nat.add_comm (3*r.length),←Nat.add_assoc]
  exact Nat.le_trans h (Nat.add_le_add_right h2 _)
noncomputable def Short (ps:List (List UInt8)):Prop:= ∀p∈ps,p.length≤1000
theorem Short.grow {ps:List (List UInt8)}(h:Short ps){o:List UInt8}(ho:o.length≤1000)(i:Nat):Short (Internal.grow ps i o):=by
 unfold Internal.grow
 split
 ·exact h
 ·intro p hp
  rcases List.mem_append.mp hp with q|q
  ·exact h p q
  ·rw [List.mem_singleton.mp q];exact ho
theorem foldl_short (b:Int): ∀(l:List Item') (s:St),(∀p∈l,p.2.length≤1000)→Short s.ps→Short (l.foldl (stepF b) s).ps
 | [],s,_,h=>h
 |p::r,s,hl,h=>foldl_short b r (stepF b s p) (fun q hq=>hl q (List.mem_cons_of_mem _ hq)) (h.grow (hl p List.mem_cons_self) _)
structure FontOk (f:Font):Prop where
 ver:(versions.any (· ==f.1))=true
 row:TagRow (f.2.map (·.1))
 short: ∀p∈f.2,p.2.length≤1000
theorem at_mem {κ α:Type} [DecidableEq κ] {l:List (κ×α)}{k:κ}{v:α}(h:at' l k=some v):(k,v)∈l:=by
 unfold at' at h
 cases e:l.find? fun kv=>kv.1=k with
 |none=>rw [e] at h;cases h
 |some q=>
  rw [e] at h
  have h1:=List.find?_some e
  have h2:=List.mem_of_find?_eq_some e
  obtain ⟨k',v'⟩:=q
  cases h
  have h3:k'=k:=of_decide_eq_true h1
  exact h3▸h2
theorem at_some {κ α:Type} [DecidableEq κ] {l:List (κ×α)}{k:κ}(h:k∈l.map (·.1)): ∃v,at' l k=some v:=by
 obtain ⟨q,hq,e⟩:=List.mem_map.mp h
 unfold at'
 cases hf:l.find? fun kv=>kv.1=k with
 |none=>exact absurd (decide_eq_true e) (by simpa using List.find?_eq_none.mp hf q hq)
 |some z=>exact ⟨z.2,rfl⟩
theorem tabGet_at {t:List (Str×List UInt8)}{y:Str}(h:y∈t.map (·.1)):at' t y=some (tabGet t y):=by
 obtain ⟨v,e⟩:=at_some h
 unfold tabGet
 rw [e];rfl
theorem tags_mem {f:Font}{y:Str}(h:y∈tags f):y∈f.2.map (·.1):=by
 unfold tags tagSort at h
 have:=(List.mem_filter.mp h).2
 simpa using this
theorem tags_isTag {f:Font}{y:Str}(h:y∈tags f):IsTag y:=by
 unfold tags tagSort at h
 have:=(List.mem_filter.mp h).1
 simp only [List.mem_cons,List.not_mem_nil,or_false] at this
 rcases this with rfl|rfl|rfl
 ·exact .cmap
 ·exact .head
 ·exact .maxp
theorem FontOk.len {f:Font}(h:FontOk f){y:Str}(hy:y∈tags f):(tabGet f.2 y).length≤1000:=h.short _ (at_mem (tabGet_at (tags_mem hy)))
theorem FontOk.tagsLen {f:Font}(h:FontOk f):(tags f).length=f.2.length:=by
 have:=h.row
 unfold tags
 rw [←List.length_map (f:=(·.1)) (as:=f.2)]
 generalize f.2.map (·.1)=ks at this⊢
 cases this with
 |one h=>cases h<;>decide+kernel
 |two hy hz h=>cases hy<;>cases hz<;>first|exact absurd rfl h|decide+kernel
 |three hy hz hu ha hb hc=>cases hy<;>cases hz<;>first|exact absurd rfl ha|(cases hu<;>first|exact absurd rfl hb|exact absurd rfl hc|decide+kernel)
noncomputable abbrev itemOf (r:Row):Item':=(r.1,r.2.1)
theorem rows_foldl (b:Int): ∀(l:List Item') (s:St),(l.foldl (stepF b) s).rows.map itemOf=s.rows.map itemOf++l
 | [],s=>(List.append_nil _).symm
 |p::r,s=>by
  rw [List.foldl_cons,rows_foldl b r (stepF b s p)]
  show (s.rows++ [_]).map itemOf++r=_
  rw [List.map_append,List.append_assoc];rfl
theorem put_snoc {κ α:Type} [DecidableEq κ] {l:List (κ×α)}{k:κ}{v:α}(h:k∉l.map (·.1)):put l k v=l++ [(k,v)]:=by
 unfold put
 rw [if_neg]
 intro hh
 obtain ⟨q,hq,e⟩:=List.any_eq_true.mp hh
 exact h (of_decide_eq_true e▸List.mem_map_of_mem hq)
theorem tags_nodup (f:Font):(tags f).Nodup:=by
 unfold tags tagSort
 exact List.Pairwise.filter _ (by decide+kernel)
theorem items_fst (f:Font):(items f).map (·.1)=tags f:=by
 unfold items
 rw [List.map_map]
 exact List.map_id _
noncomputable abbrev intL (l:List Nat):List Int:=l.map fun (i:Nat)=>(i:Int)
noncomputable def spotsL (b:Int)(ps:List (List UInt8)):List Int:=(List.range ps.length).map fun i=>spotOf b ps i
theorem spotsL_length (b:Int)(ps:List (List UInt8)):(spotsL b ps).length=ps.length:=by unfold spotsL;rw [List.length_map,List.length_range]
theorem spotsL_snoc (b:Int)(ps:List (List UInt8))(o:List UInt8):spotsL b (ps++ [o])=spotsL b ps++ [spotOf b ps ps.length]:=by
 unfold spotsL
 rw [List.length_append,List.length_singleton,List.range_succ,List.map_append,List.map_singleton,spotOf_snoc (Nat.le_refl _)]
 congr 1
 exact List.map_congr_left fun i hi=>spotOf_snoc (Nat.le_of_lt (List.mem_range.mp hi))
theorem spotsL_get {b:Int}{ps:List (List UInt8)}{i:Nat}(h:i<ps.length):(spotsL b ps)[i]?=some (spotOf b ps i):=by
 unfold spotsL
 rw [List.getElem?_map,List.getElem?_range h];rfl
theorem plan_rows_len (b:Int): ∀(l:List Font) (F:Ft),(l.foldl (stepG b) F).rows.length=F.rows.length+l.length
 | [],F=>rfl
 |f::r,F=>by
  rw [List.foldl_cons,plan_rows_len b r (stepG b F f),List.length_cons]
  show (F.rows++ [_]).length+r.length=_
  rw [List.length_append,List.length_singleton,Nat.add_assoc,Nat.add_comm 1]
theorem nodup_take {α:Type}{l:List α}(hn:l.Nodup){j:Nat}{y:α}(h:l[j]?=some y):y∉l.take j:=fun hm=>by
 obtain ⟨i,hi⟩:=List.mem_iff_getElem?.mp hm
 rw [List.getElem?_take] at hi
 split at hi
 ·rename_i hij
  obtain ⟨h1,h2⟩:=List.getElem?_eq_some_iff.mp h
  obtain ⟨h3,h4⟩:=List.getElem?_eq_some_iff.mp hi
  exact Nat.ne_of_lt hij ((List.getElem_inj hn).mp (h4.trans h2.symm))
 ·cases hi
theorem filt_succ (p:Nat→Bool)(m:Nat):(List.range (m+1)).filter p=(List.range m).filter p++(if p m then [m] else []):=by
 rw [List.range_succ,List.filter_append]
 congr 1
 rw [List.filter_cons,List.filter_nil]
theorem freeP_at {ps:List (List UInt8)}{tk:List Nat}{o q:List UInt8}{m:Nat}(h:ps[m]?=some q):freeP ps tk o m=((q==o)&&!((intL tk).any (· ==(m:Int)))):=by unfold freeP;rw [h];rfl
theorem tk_foldl (b:Int): ∀(l:List Item') (s:St),(l.foldl (stepF b) s).tk.length=s.tk.length+l.length
 | [],s=>rfl
 |p::r,s=>by
  rw [List.foldl_cons,tk_foldl b r (stepF b s p),List.length_cons]
  show (s.tk++ [_]).length+r.length=_
  rw [List.length_append,List.length_singleton,Nat.add_assoc,Nat.add_comm 1]
theorem items_short {f:Font}(h:FontOk f): ∀p∈items f,p.2.length≤1000:=by
 intro p hp
 unfold items at hp
 obtain ⟨y,hy,rfl⟩:=List.mem_map.mp hp
 exact h.len hy
theorem plan_short (b:Int): ∀(l:List Font) (F:Ft),(∀f∈l,FontOk f)→Short F.ps→Short (l.foldl (stepG b) F).ps
 | [],F,_,h=>h
 |f::r,F,hl,h=>plan_short b r (stepG b F f) (fun g hg=>hl g (List.mem_cons_of_mem _ hg)) (foldl_short b (items f) ⟨F.ps,[],[]⟩ (items_short (hl f List.mem_cons_self)) h)
theorem fill_le {p:List UInt8}(h:p.length≤1000):(fill p).length≤1003:=by
 rw [fill_length];lia
theorem flat_le : ∀{l:List (List UInt8)}{n:Nat},(∀p∈l,p.length≤n)→l.flatten.length≤l.length*n
 | [],n,_=>Nat.zero_le _
 |p::r,n,h=>by
  rw [List.flatten_cons,List.length_append,List.length_cons,Nat.succ_mul,Nat.add_comm]
  exact Nat.add_le_add (flat_le fun q hq=>h q (List.mem_cons_of_mem _ hq)) (h p List.mem_cons_self)
theorem body_le {ps:List (List UInt8)}(h:Short ps)(hl:ps.length≤192):((ps.map fill).flatten).length≤192576:=by
 refine Nat.le_trans (flat_le (n:=1003) fun p hp=>?_) (by rw [List.length_map];exact Nat.mul_le_of_le_div 1003 ps.length 192576 hl)
 obtain ⟨q,hq,rfl⟩:=List.mem_map.mp hp
 exact fill_le (h q hq)
section
variable {G:Gl}{C:Cx}{lv:List (Option AVal)}{σ:Own}{x:Prop}{Q:AVal→Own→Prop}
theorem tag_plain {y:Str}(h:IsTag y):y.length=4∧0<y.cps.size∧ ∀c∈y.cps.toList,decide ((⟨#[c]⟩:Str).cps.toList<(" ":Str).cps.toList)=false∧decide (("~":Str).cps.toList<(⟨#[c]⟩:Str).cps.toList)=false:=by cases h<;>decide+kernel
theorem row_isTag {ks:List Str}(h:TagRow ks): ∀y∈ks,IsTag y:=by
 cases h with
 |one h=>intro y hy;rw [List.mem_singleton.mp hy];exact h
 |two ha hb _=>
  intro y hy
  rcases List.mem_cons.mp hy with rfl|hy
  ·exact ha
  ·rw [List.mem_singleton.mp hy];exact hb
 |three ha hb hc _ _ _=>
  intro y hy
  rcases List.mem_cons.mp hy with rfl|hy
  ·exact ha
  rcases List.mem_cons.mp hy with rfl|hy
  ·exact hb
  ·rw [List.mem_singleton.mp hy];exact hc
theorem need_tables_spec (hG:G.frag=KF G.w.params)(hrk:1≤C.rk){f:Font}(hf:FontOk f)(h:Q .none σ):CallP G C lv σ (.ref 404) [.int f.1,.dS (tabA f.2)] Q x:=by
 have hpos:=hf.row.pos
 rw [List.length_map] at hpos
 have hnd:=hf.row.nodup
 have hlen:(tabA f.2).length=f.2.length:=List.length_map ..
 refine CallP.intro (ok_need_tables hG) rfl hrk (len2 fun _ _=>rfl) ?_
 intro g L'
 refine Ex.cons (Ex.ite (Tst.cmpN (i:=0) rfl rfl (Ev.versions hG (Cmp.notInT ?_))))
 refine rwG (hf.ver ..) ?_;refine rwG (if_neg (by decide) ..) ?_
 refine Ex.nil (Ex.cons (Ex.ite (Tst.not (Tst.chain (Ev.int (Ev.callB (ns_len hG) rfl Keeps.builtin (Args'.name (i:=1) rfl rfl (Args'.nil (CallP.lenD (by rw [tab_keys];exact hnd) (Cmp.lt ?_) ?_)))))))))
 ·refine rwG (hlen ..) ?_;refine rwG (decide_eq_true (Int.natCast_pos.mpr hpos.1) ..) ?_;refine rwG (if_pos rfl ..) ?_
  refine Ev.globI (ns_MOST_TABLES hG) (Cmp.le ?_)
  refine rwG (decide_eq_true (Int.le_trans (Int.ofNat_le.mpr hpos.2) (by decide)) ..) ?_;refine rwG (if_neg (by decide) ..) ?_
  refine Ex.nil (Ex.cons (Ex.for ((tabA f.2).map fun p=> .str p.1) (fun k lv σ'=>σ'=σ∧ ∃t,lv= [some (.int f.1),some (.dS (tabA f.2)),t,none,none,none,none,none,none]) ?_ ?_ ?_))
  ·exact Ev.name (i:=1) rfl rfl ⟨.dS _ (by rw [tab_keys];exact hnd),rfl,none,rfl⟩
  ·rintro k w lv σ' hk ⟨rfl,t,rfl⟩
   obtain ⟨p,hp,rfl⟩:=map_at hk
   have hy:IsTag p.1:=row_isTag hf.row _ (by rw [←tab_keys];exact List.mem_map_of_mem (List.mem_of_getElem? hp))
   obtain ⟨e1,e2,e3⟩:=tag_plain hy
   refine Sto.nameL 2 rfl ?_
   refine Ex.cons (Ex.ite (Tst.boolop (All.or (Tst.cmp (Ev.callB (ns_len hG) rfl Keeps.builtin (Args'.name (i:=2) rfl rfl (Args'.nil (CallP.lenS (Ev.int (Cmp.ne ?_)) (by rw [e1];decide)))))))))
   refine rwG (e1 ..) ?_;refine rwG (if_neg (by decide) ..) ?_
   refine All.or (Tst.cmp (Ev.callB (ns_min hG) rfl Keeps.builtin (Args'.name (i:=2) rfl rfl (Args'.nil (CallP.minS e2 fun c hc=>Ev.str (Cmp.ltS ?_))))))
   refine rwG ((e3 c hc).1 ..) ?_;refine rwG (if_neg (by decide) ..) ?_
   refine All.or (Tst.cmp (Ev.callB (ns_max hG) rfl Keeps.builtin (Args'.name (i:=2) rfl rfl (Args'.nil (CallP.maxS e2 fun c hc=>Ev.str (Cmp.gtS ?_))))))
   refine rwG ((e3 c hc).2 ..) ?_;refine rwG (if_neg (by decide) ..) ?_
   refine All.or_nil ?_
   refine rwG (if_neg (by decide) ..) ?_
   exact Ex.nil (Ex.nil ⟨rfl,_,rfl⟩)
  ·rintro lv σ' ⟨rfl,_⟩
   exact Ex.nil h
 ·rw [hlen];exact Nat.le_trans hpos.2 (by decide)
noncomputable def srch (n:Nat):List UInt8:=be (if n=1 then 16 else 32) 2++be (if n=1 then 0 else 1) 2++be (16*(n:Int) - (if n=1 then 16 else 32)) 2
noncomputable def recB (r:Rec):List UInt8:=tagB r.1++be r.2.1 4++be r.2.2.1 4++be r.2.2.2.1 4
noncomputable def dirH (v:Int)(n:Nat):List UInt8:=be v 4++be n 2++srch n
noncomputable def dirR (v:Int)(rs:List Rec):List UInt8:=dirH v rs.length++(rs.map recB).flatten
structure RecOk (r:Rec):Prop where
 tag:IsTag r.1
 t0:0≤r.2.1
 t1:r.2.1<256^4
 b0:0≤r.2.2.1
 b1:r.2.2.1<256^4
 l0:0≤r.2.2.2.1
 l1:r.2.2.2.1<256^4
theorem dirH_length (v:Int)(n:Nat):(dirH v n).length=12:=by simp [dirH,srch,be_length]
theorem recB_length {r:Rec}(h:IsTag r.1):(recB r).length=16:=by simp [recB,be_length,tagB_length h]
theorem recs_length : ∀{rs:List Rec},(∀r∈rs,RecOk r)→((rs.map recB).flatten).length=16*rs.length
 | [],_=>rfl
 |r::rs,h=>by
  rw [List.map_cons,List.flatten_cons,List.length_append,recB_length (h r List.mem_cons_self).tag,recs_length fun q hq=>h q (List.mem_cons_of_mem _ hq),List.length_cons,Nat.mul_succ,Nat.add_comm]
set_option maxHeartbeats 4000000 in
theorem directory_octets_spec (hG:G.frag=KF G.w.params)(hrk:3≤C.rk){v:Int}{rs:List Rec}(hv0:0≤v)(hv1:v<256^4)(h1:1≤rs.length)(h3:rs.length≤3)(hr: ∀r∈rs,RecOk r)(h:Q (.bytes (dirR v rs)) σ):
  CallN G C lv σ (.ref 411) [.int v,.lst (rs.map recA)] Q x:=by
 have hl:(rs.map recA).length=rs.length:=List.length_map ..
 have hl0:(0:Int)≤rs.length:=Int.natCast_nonneg _
 have hl1:(rs.length:Int)<256^2:=Int.lt_of_le_of_lt (Int.ofNat_le.mpr h3) (by decide)
 refine CallN.forget σ.length ?_
 refine CallN.intro (ok_directory_octets hG) rfl (Nat.le_trans (by decide) hrk) (len2 fun _ _=>rfl) ?_
 intro g L'
 refine ExN.cons (ExN.assign 2 rfl (.inl ⟨rfl,rfl⟩) (EvN.call (Ev.glob (ns_OctetsOut hG) ⟨_,rfl,Keeps.fk hG rfl,ArgsN.nil (out_new hG (show 2≤C.rk - 1 from rk_le hrk) fun a m=>?_)⟩)))
 refine ExN.cons (ExN.expr (EvN.meth (.ref 238) (Ev.name (i:=2) rfl rfl ⟨Meth.inst get_two1 (mo_OctetsOut_u32 hG) rfl,Keeps.fk hG rfl,ArgsN.cons (.of (Ev.name (i:=0) rfl rfl (ArgsN.nil ?_)))⟩)))
 refine out_u32 hG (show 2≤C.rk - 1 from rk_le hrk) get_two1 get_two2 hv0 hv1 (by decide) ?_
 refine rwG (set_two2 ..) ?_
 refine ExN.cons (ExN.expr (EvN.meth (.ref 217) (Ev.name (i:=2) rfl rfl ⟨Meth.inst get_two1 (mo_OctetsOut_u16 hG) rfl,Keeps.fk hG rfl,ArgsN.cons (.of ?_)⟩)))
 refine Ev.callB (ns_len hG) rfl Keeps.builtin (Args'.name (i:=1) rfl rfl (Args'.nil (CallP.lenL (ArgsN.nil ?_) (by rw [hl];exact Nat.le_trans h3 (by decide)))))
 refine rwG (hl ..) ?_
 refine out_u16 hG (show 2≤C.rk - 1 from rk_le hrk) get_two1 get_two2 hl0 hl1 (by simp [be_length]) ?_
 refine rwG (set_two2 ..) ?_
 refine ExN.cons (ExN.expr (EvN.meth (.ref 248) (Ev.name (i:=2) rfl rfl ⟨Meth.inst get_two1 (mo_OctetsOut_rows hG) rfl,Keeps.fk hG rfl,ArgsN.cons (.of ?_)⟩)))
 refine Ev.callG (ns_search_numbers hG) (.fk hG rfl) (Args'.cons ?_)
 refine Ev.callB (ns_len hG) rfl Keeps.builtin (Args'.name (i:=1) rfl rfl (Args'.nil (CallP.lenL (Args'.nil ?_) (by rw [hl];exact Nat.le_trans h3 (by decide)))))
 refine rwG (hl ..) ?_
 refine search_numbers_spec hG (show 1≤C.rk - 1 from rk_le hrk) h1 h3 (ArgsN.nil ?_)
 have sn: ∀n:Nat,n≤3→1≤n→((0:Int)≤(if n=1 then 16 else 32)∧(if n=1 then 16 else 32:Int)<256^2)∧((0:Int)≤(if n=1 then 0 else 1)∧(if n=1 then 0 else 1:Int)<256^2)∧((0:Int)≤16*n - (if n=1 then 16 else 32)∧16*(n:Int) - (if n=1 then 16 else 32)<256^2):=by
  intro n hn hn'
  have:n=1∨n=2∨n=3:=or13 hn' hn
  rcases this with rfl|rfl|rfl<;>decide
 obtain ⟨s1,s2,s3⟩:=sn _ h3 h1
 refine out_rows hG (show 2≤C.rk - 1 from rk_le hrk) s1 s2 s3 get_two1 get_two2 (by simp [be_length]) ?_
 refine rwG (set_two2 ..) ?_
 refine ExN.cons (ExN.for (rs.map recA) (fun k lv σ'=>σ'=σ++ [(a,outObj m),(m,.barr (dirH v rs.length++((rs.take k).map recB).flatten))]∧ ∃t,lv= [some (.int v),some (.lst (rs.map recA)),some (.ref a),t,none,none,none]) ?_ ?_ ?_)
 ·refine Ev.name (i:=1) rfl rfl ⟨.lst _,?_,none,rfl⟩
  show _=σ++ [(a,outObj m),(m,.barr (dirH v rs.length++ []))]
  refine rwG (List.append_nil ..) ?_
  rfl
 ·rintro k w lv σ' hk ⟨rfl,t,rfl⟩
  obtain ⟨r,hr',rfl⟩:=map_at hk
  have R:=hr r (List.mem_of_getElem? hr')
  have hz:(dirH v rs.length++((rs.take k).map recB).flatten).length≤60:=by
   refine rwG (List.length_append ..) ?_;refine rwG (dirH_length ..) ?_;refine rwG (recs_length fun q hq=>hr q (List.mem_of_mem_take hq) ..) ?_;refine rwG (List.length_take ..) ?_
   lia
  have ez:((rs.take (k+1)).map recB).flatten=((rs.take k).map recB).flatten++recB r:=by
   refine rwG (List.take_add_one ..) ?_;refine rwG (hr' ..) ?_;refine rwG (Option.toList_some ..) ?_;refine rwG (List.map_append ..) ?_;refine rwG (List.flatten_append ..) ?_
   simp
  refine rwG (ez ..) ?_;refine rwGr (List.append_assoc ..) ?_
  revert hz
  refine gen (dirH v rs.length++((rs.take k).map recB).flatten) ?_
  intro b hz
  have ht:=tagB_length R.tag
  refine Sto.nameL 3 rfl ?_
  refine ExN.cons (ExN.expr (EvN.meth (.ref 243) (Ev.name (i:=2) rfl rfl ⟨Meth.inst get_two1 (mo_OctetsOut_tag hG) rfl,Keeps.fk hG rfl,ArgsN.cons (.of (Ev.attrN (i:=3) rfl rfl (Attr.rcd (fo_Record_tag hG) rfl (ArgsN.nil ?_))))⟩)))
  refine out_tag hG (show 1≤C.rk - 1 from rk_le hrk) R.tag get_two1 get_two2 (Nat.le_trans hz (by decide)) ?_
  refine rwG (set_two2 ..) ?_
  refine ExN.cons (ExN.expr (EvN.meth (.ref 238) (Ev.name (i:=2) rfl rfl ⟨Meth.inst get_two1 (mo_OctetsOut_u32 hG) rfl,Keeps.fk hG rfl,ArgsN.cons (.of (Ev.attrN (i:=3) rfl rfl (Attr.rcd (fo_Record_total hG) rfl (ArgsN.nil ?_))))⟩)))
  refine out_u32 hG (show 2≤C.rk - 1 from rk_le hrk) get_two1 get_two2 R.t0 R.t1 (by rw [List.length_append,ht];lia) ?_
  refine rwG (set_two2 ..) ?_
  refine ExN.cons (ExN.expr (EvN.meth (.ref 238) (Ev.name (i:=2) rfl rfl ⟨Meth.inst get_two1 (mo_OctetsOut_u32 hG) rfl,Keeps.fk hG rfl,ArgsN.cons (.of (Ev.attrN (i:=3) rfl rfl (Attr.rcd (fo_Record_begin hG) rfl (ArgsN.nil ?_))))⟩)))
  refine out_u32 hG (show 2≤C.rk - 1 from rk_le hrk) get_two1 get_two2 R.b0 R.b1 (by rw [List.length_append,List.length_append,ht,be_length];lia) ?_
  refine rwG (set_two2 ..) ?_
  refine ExN.cons (ExN.expr (EvN.meth (.ref 238) (Ev.name (i:=2) rfl rfl ⟨Meth.inst get_two1 (mo_OctetsOut_u32 hG) rfl,Keeps.fk hG rfl,ArgsN.cons (.of (Ev.attrN (i:=3) rfl rfl (Attr.rcd (fo_Record_length hG) rfl (ArgsN.nil ?_))))⟩)))
  refine out_u32 hG (show 2≤C.rk - 1 from rk_le hrk) get_two1 get_two2 R.l0 R.l1 (by rw [List.length_append,List.length_append,List.length_append,ht,be_length,be_length];lia) ?_
  refine rwG (set_two2 ..) ?_
  refine ExN.nil ⟨?_,_,rfl⟩
  unfold recB
  rw [List.append_assoc,List.append_assoc,List.append_assoc,List.append_assoc,List.append_assoc]
 ·rintro lv σ' ⟨rfl,t,rfl⟩
  refine rwG (hl ..) ?_;refine rwG (List.take_length ..) ?_
  refine ExN.step (Ex.ret (Ev.methN (.ref 269) (i:=2) rfl rfl (Meth.inst get_two1 (mo_OctetsOut_octets hG) rfl) (.fk hG rfl) (Args'.nil ?_)))
  refine out_octets hG (show 1≤C.rk - 1 from rk_le hrk) get_two1 get_two2 ?_ ?_
  ·rw [List.length_append,dirH_length,recs_length hr];lia
  ·refine rwG (List.take_left' rfl ..) ?_
   exact h
end
section
variable {σ τ:Own}{p q:Addr×OObj}{i:Nat}
theorem gx (h:τ[i]?=some p):(σ++τ)[σ.length+i]?=some p:=by
 rw [List.getElem?_append_right (Nat.le_add_right _ _),Nat.add_sub_cancel_left];exact h
theorem sx :(σ++τ).set (σ.length+i) p=σ++τ.set i p:=by
 rw [List.set_append_right _ _ (Nat.le_add_right _ _),Nat.add_sub_cancel_left]
theorem ex :(σ++τ).eraseIdx (σ.length+i)=σ++τ.eraseIdx i:=by
 rw [List.eraseIdx_append_of_length_le (Nat.le_add_right _ _),Nat.add_sub_cancel_left]
theorem tx {n:Nat}:(σ++τ).take (σ.length+n)=σ++τ.take n:=by
 rw [List.take_length_add_append]
end
section
variable {G:Gl}{C:Cx}{lv:List (Option AVal)}{σ:Own}{x:Prop}{Q:AVal→Own→Prop}{Qn:List (Option AVal)→Own→Prop}{Qr:AVal→Own→Prop}
theorem Ex.forget {t:Sem Flow}(n:Nat)(h:Ex G C lv σ t (fun lv σ'=>Qn lv (σ'.take n)) (fun v σ'=>Qr v (σ'.take n)) x):Ex G C lv σ t Qn Qr x:=fun K J m own s S I O=>
 wpAny_mono (h K J m own s S I O) (fun f s' p=>by
  obtain ⟨K',J',own',lv',σ',m',h',tk',e,hk,hj,S',I',O',q⟩:=p
  rw [←List.take_append_drop n σ'] at O'
  obtain ⟨o1,o2,rfl,O1,_⟩:=O'.split
  refine ⟨K',J',o1,lv',_,m',h',tk',e,hk,hj,S',I'.left,O1,?_⟩
  rcases q with ⟨a,b⟩|⟨cv,v,a,b,c⟩
  ·exact .inl ⟨a,b⟩
  ·exact .inr ⟨cv,v,a,b,c⟩) fun _ _ f=>f
theorem Ex.consM {st:Stmt}{rest:List Stmt}(M:List (Option AVal)→Own→Prop)(h1:Ex G C lv σ (exec st C.env) M Qr x)(h2: ∀lv₁ σ₁,M lv₁ σ₁→Ex G C lv₁ σ₁ (execs rest C.env) Qn Qr x):Ex G C lv σ (execs (st::rest) C.env) Qn Qr x:=
 Ex.cons fun K J m own s S I O=>wpAny_mono (h1 K J m own s S I O) (fun f s' p=>by
  obtain ⟨K',J',own',lv',σ',m',h',tk',e,hk,hj,S',I',O',q⟩:=p
  refine ⟨K',J',own',lv',σ',m',h',tk',e,hk,hj,S',I',O',?_⟩
  rcases q with ⟨a,b⟩|q
  ·exact .inl ⟨a,h2 _ _ b⟩
  ·exact .inr q) fun _ _ f=>f
noncomputable abbrev rowsA (rs:List Row):List (Str×AVal):=rs.map fun r=>(r.1,AVal.int r.2.2)
noncomputable abbrev placesA (rows:List (Int×List Row)):List AVal:=rows.map fun p=> .dS (rowsA p.2)
noncomputable def lv20o (fs:List Font)(b:Int)(ps:List (List UInt8))(a1 a2 a3:Addr)(t:Nat→Option AVal):List (Option AVal):= [some (.lst (fs.map fontA)),some (.int (spotOf b ps ps.length)),some (.ref a1),some (.ref a2),some (.ref a3),t 5,t 6,t 7,t 8,t 9,t 10,none,none,none,none]
noncomputable def lv20i (fs:List Font)(b:Int)(ps:List (List UInt8))(f:Font)(a1 a2 a3 a4 a5:Addr)(t:Nat→Option AVal):List (Option AVal):= [some (.lst (fs.map fontA)),some (.int (spotOf b ps ps.length)),some (.ref a1),some (.ref a2),some (.ref a3),some (.int f.1),some (.dS (tabA f.2)),some (.ref a4),some (.ref a5),t 9,t 10,none,none,none,none]
noncomputable def ta20o (b:Int)(ps:List (List UInt8))(rows:List (Int×List Row))(a1 a2 a3:Addr):Own:= [(a1,.list (ps.map .bytes)),(a2,.list ((spotsL b ps).map .int)),(a3,.list (placesA rows))]
noncomputable def ta20i (b:Int)(ps:List (List UInt8))(rows:List (Int×List Row))(row:List Row)(tk:List Nat)(a1 a2 a3 a4 a5:Addr):Own:= [(a1,.list (ps.map .bytes)),(a2,.list ((spotsL b ps).map .int)),(a3,.list (placesA rows)),(a4,.dS (rowsA row)),(a5,.list ((intL tk).map .int))]
noncomputable def Ph20o (fs:List Font)(b:Int)(σ:Own)(a1 a2 a3:Addr)(k:Nat)(lv:List (Option AVal))(σ':Own):Prop:=At (lv20o fs b (plan b (fs.take k)).ps a1 a2 a3) (σ++ta20o b (plan b (fs.take k)).ps (plan b (fs.take k)).rows a1 a2 a3) lv σ'
noncomputable def Ph20i (fs:List Font)(b:Int)(f:Font)(F:Ft)(σ:Own)(a1 a2 a3 a4 a5:Addr)(j:Nat)(lv:List (Option AVal))(σ':Own):Prop:= ∃s,s=((items f).take j).foldl (stepF b) ⟨F.ps,[],[]⟩∧At (lv20i fs b s.ps f a1 a2 a3 a4 a5) (σ++ta20i b s.ps F.rows s.rows s.tk a1 a2 a3 a4 a5) lv σ'
noncomputable def Ph20c (s:St)(o:List UInt8)(τ:Own)(m:Nat)(out:List AVal)(σ':Own):Prop:=σ'=τ∧out=(intL ((List.range m).filter (freeP s.ps s.tk o))).map .int
noncomputable def lv20m (fs:List Font)(b:Int)(ps:List (List UInt8))(f:Font)(a1 a2 a3 a4 a5:Addr)(y:Str)(i:Nat)(r:List AVal):List (Option AVal):= [some (.lst (fs.map fontA)),some (.int (spotOf b ps ps.length)),some (.ref a1),some (.ref a2),some (.ref a3),some (.int f.1),some (.dS (tabA f.2)),some (.ref a4),some (.ref a5),some (.str y),some (.lst (.int i::r)),none,none,none,none]
noncomputable def Ph20m (fs:List Font)(b:Int)(f:Font)(F:Ft)(s:St)(y:Str)(o:List UInt8)(σ:Own)(a1 a2 a3 a4 a5:Addr)(lv:List (Option AVal))(σ':Own):Prop:= ∃r,At (fun _=>lv20m fs b (grow s.ps (pick s.ps s.tk o) o) f a1 a2 a3 a4 a5 y (pick s.ps s.tk o) r) (σ++ta20i b (grow s.ps (pick s.ps s.tk o) o) F.rows s.rows s.tk a1 a2 a3 a4 a5) lv σ'
set_option maxHeartbeats 4000000 in
theorem shared_spots_spec (hG:G.frag=KF G.w.params)(hrk:2≤C.rk){fs:List Font}{b:Int}(hf: ∀f∈fs,FontOk f)(hz:fs.length≤64)
  (h:Q (.tup [.bytes (((plan b fs).ps.map fill).flatten),.lst (placesA (plan b fs).rows)]) σ):CallP G C lv σ (.ref 416) [.lst (fs.map fontA),.int b] Q x:=by
 refine CallP.forget σ.length ?_
 refine CallP.intro (ok_shared_spots hG) rfl (Nat.le_trans (by decide) hrk) (len2 fun _ _=>rfl) ?_
 intro g L'
 refine Ex.cons (Ex.assignT (Ev.tuple (Args'.cons (Ev.listOwn (Args'.nil ⟨Nat.le_of_ble_eq_true rfl,fun a1=>?_⟩)))))
 refine Args'.cons (Ev.listOwn (Args'.nil ⟨Nat.le_of_ble_eq_true rfl,fun a2=>Args'.cons (Ev.listOwn (Args'.nil ⟨Nat.le_of_ble_eq_true rfl,fun a3=>Args'.nil ⟨Nat.le_of_ble_eq_true rfl,?_⟩⟩))⟩))
 refine Sto.tuple rfl (Stos.cons (Sto.name 2 rfl (.inr ⟨rfl,_,rfl,rfl⟩) (Stos.name 3 rfl (Stos.name 4 rfl (Stos.nil ?_)))))
 refine rwG (List.append_assoc ..) ?_;refine rwG (List.append_assoc ..) ?_
 refine Ex.cons (Ex.for (fs.map fontA) (Ph20o fs b σ a1 a2 a3) ?_ ?_ ?_)
 ·refine Ev.name (i:=0) rfl rfl ⟨.lst _,?_,rfl⟩
  show _= [_,some (AVal.int (spotOf b [] 0)),_,_,_,_,_,_,_,_,_,_,_,_,_]
  rw [spotOf_zero];rfl
 ·rintro k w lv σ' hk e
  refine stE e fun t=>?_
  obtain ⟨f,hfk,rfl⟩:=map_at hk
  have Fo:=hf f (List.mem_of_getElem? hfk)
  have hkn:k<fs.length:=(List.getElem?_eq_some_iff.mp hfk).1
  have ep:plan b (fs.take (k+1))=stepG b (plan b (fs.take k)) f:=by
   unfold plan
   rw [List.take_add_one,hfk,Option.toList_some,List.foldl_append];rfl
  have hps:(plan b (fs.take k)).ps.length≤192:=by
   have:=plan_ps_len b (fs.take k) ⟨[],[]⟩
   rw [List.length_take] at this
   exact Nat.le_trans this (by show 0+3*_≤_;lia)
  have hrl:(plan b (fs.take k)).rows.length≤64:=by
   have:=plan_rows_len b (fs.take k) ⟨[],[]⟩
   rw [List.length_take] at this
   exact Nat.le_trans (Nat.le_of_eq this) (by show 0+_≤_;lia)
  revert hps hrl ep
  refine gen (plan b (fs.take k)) ?_
  intro F ep hps hrl
  refine Sto.tuple rfl (Stos.name 5 rfl (Stos.cons (Sto.name 6 rfl (.inr ⟨rfl,_,rfl,rfl⟩) (Stos.nil ?_))))
  refine Ex.forget (σ.length+3) ?_
  refine Ex.cons (Ex.assignT (Ev.tuple (Args'.cons (Ev.dictS fun a4=>Args'.cons (Ev.listOwn (Args'.nil ⟨Nat.le_of_ble_eq_true rfl,fun a5=>Args'.nil ⟨Nat.le_of_ble_eq_true rfl,?_⟩⟩))))))
  refine Sto.tuple rfl (Stos.name 7 rfl (Stos.cons (Sto.name 8 rfl (.inr ⟨rfl,_,rfl,rfl⟩) (Stos.nil ?_))))
  refine rwG (List.append_assoc ..) ?_;refine rwG (List.append_assoc ..) ?_
  refine Ex.cons (Ex.for ((tags f).map .str) (Ph20i fs b f F σ a1 a2 a3 a4 a5) ?_ ?_ ?_)
  ·refine Ev.callB (ns_sorted hG) rfl Keeps.builtin (Args'.name (i:=6) rfl rfl (Args'.nil (CallP.sortedD (by rw [tab_keys];exact Fo.row) ?_)))
   refine rwG (tab_keys ..) ?_
   exact ⟨.lst _,_,rfl,rfl,rfl⟩
  ·rintro j w lv σ' hj ⟨s,hs,e⟩
   refine stE e fun t=>?_
   obtain ⟨y,hy,rfl⟩:=map_at hj
   have hym:=List.mem_of_getElem? hy
   have hit:(items f)[j]?=some (y,tabGet f.2 y):=by
    unfold items
    rw [List.getElem?_map,hy];rfl
   have es:((items f).take (j+1)).foldl (stepF b) ⟨F.ps,[],[]⟩=stepF b s (y,tabGet f.2 y):=by
    rw [List.take_add_one,hit,Option.toList_some,List.foldl_append,←hs];rfl
   have hsl:s.ps.length≤195:=by
    have h1:=foldl_ps_len b ((items f).take j) ⟨F.ps,[],[]⟩
    rw [←hs,List.length_take,items_length] at h1
    have h2:=tags_le f
    exact Nat.le_trans h1 (by show F.ps.length+_≤_;lia)
   have hkeys:(rowsA s.rows).map (·.1)=(tags f).take j:=by
    have h1:=rows_foldl b ((items f).take j) ⟨F.ps,[],[]⟩
    rw [←hs] at h1
    have h2:=congrArg (List.map (·.1)) h1
    rw [List.map_map] at h2⊢
    refine rwGr (items_fst ..) ?_;refine rwGr (List.map_take ..) ?_
    exact h2
   have hlen:=Fo.len hym
   have hget:at' (tabA f.2) y=some (.bytes (tabGet f.2 y)):=at_tab (tabGet_at (tags_mem hym))
   have hndk:((tabA f.2).map (·.1)).Nodup:=by rw [tab_keys];exact Fo.row.nodup
   revert hlen hget es
   refine gen (tabGet f.2 y) ?_
   intro o es hlen hget
   have hrow3:(rowsA s.rows).length≤3:=by
    have:=congrArg List.length hkeys
    rw [List.length_map,List.length_take] at this
    refine rwG (this ..) ?_
    exact Nat.le_trans (Nat.min_le_right _ _) (tags_le f)
   refine Sto.name 9 rfl (.inr ⟨rfl,_,rfl,rfl⟩) ?_
   refine Ex.cons (Ex.assignComp 10 [none,none,some 2,some 6,some 9,some 8] ((List.range s.ps.length).map fun i=> .int ((0:Int)+(i:Nat)*1)) (Ph20c s o (σ++ta20i b s.ps F.rows s.rows s.tk a1 a2 a3 a4 a5)) rfl rfl rfl ?_ ?_ ?_ ?_)
   ·refine Ev.callB (ns_range hG) rfl Keeps.type (Args'.cons (Ev.callB (ns_len hG) rfl Keeps.builtin (Args'.name (i:=2) rfl rfl (Args'.nil (CallP.lenO (gx (i:=0) rfl) (Args'.nil ?_) ?_)))))
    ·refine rwG (List.length_map ..) ?_
     exact CallP.range1 ⟨.rng _ _ _,rfl,rfl⟩ (by lia) (by lia)
    ·rw [List.length_map];exact Nat.le_trans hsl (by decide)
   ·rintro m w out σ' hm ⟨rfl,rfl⟩
    obtain ⟨m',hm',rfl⟩:=map_at hm
    have hmn:m<s.ps.length:=by
     have:=(List.getElem?_eq_some_iff.mp hm').1
     rwa [List.length_range] at this
    rw [List.getElem?_range hmn] at hm'
    cases hm'
    refine rwG (show (0:Int)+(m:Nat)*1=(m:Int) by lia) ?_
    obtain ⟨q,hq⟩: ∃q,s.ps[m]?=some q:=⟨s.ps[m],List.getElem?_eq_getElem hmn⟩
    have hqa:(s.ps.map AVal.bytes)[((m:Nat):Int).toNat]?=some (.bytes q):=by rw [Int.toNat_natCast,List.getElem?_map,hq];rfl
    have hfr:=freeP_at (tk:=s.tk) (o:=o) hq
    refine CTurn.name 1 (fun _ _=>rfl) (fun _ _=>rfl) rfl fun cl Cc=>Tsts.one (Tst.boolop (All.and (Tst.cmp ?_)))
    refine Ev.subNN (i:=2) (j:=1) rfl rfl rfl rfl (Item.own (gx (i:=0) rfl) ?_ (Int.natCast_nonneg m) (by lia) hqa)
    refine Ev.subNN (i:=3) (j:=4) rfl rfl rfl rfl (Item.dS (Cmp.eqB ?_) hndk hget)
    have fin: ∀t:Bool,freeP s.ps s.tk o m=t→(if t=true then (List.range m).filter (freeP s.ps s.tk o)++ [m] else (List.range m).filter (freeP s.ps s.tk o))=(List.range (m+1)).filter (freeP s.ps s.tk o):=fun t ht=>by
     refine rwG (filt_succ ..) ?_;refine rwG (ht ..) ?_
     cases t
     ·exact (List.append_nil _).symm
     ·rfl
    cases hP:q==o
    ·refine rwG (if_neg (by decide) ..) ?_;refine rwG (if_neg (by decide) ..) ?_
     rw [hP,Bool.false_and] at hfr
     have:=fin _ hfr
     rw [if_neg (by decide)] at this
     exact ⟨rfl,by rw [this]⟩
    ·rw [hP,Bool.true_and] at hfr
     refine rwG (if_pos rfl ..) ?_
     refine All.and (Tst.cmpN (i:=1) rfl rfl (Ev.name (i:=5) rfl rfl (Cmp.notInO (gx (i:=4) rfl) ?_)))
     have:=fin _ hfr
     cases hT:(intL s.tk).any (· ==(m:Int))
     ·rw [hT,if_pos (by decide)] at this
      refine rwG (if_pos (by decide) ..) ?_
      refine All.and_nil ?_
      refine rwG (if_pos rfl ..) ?_
      refine Ev.name (i:=1) rfl rfl ⟨rfl,?_⟩
      refine rwGr (this ..) ?_
      unfold intL
      rw [List.map_append,List.map_append];rfl
     ·rw [hT,if_neg (by decide)] at this
      refine rwG (if_neg (by decide) ..) ?_;refine rwG (if_neg (by decide) ..) ?_
      exact ⟨rfl,by rw [this]⟩
   ·rintro out σ' ⟨rfl,rfl⟩
    refine rwG (List.length_map ..) ?_;refine rwG (List.length_range ..) ?_
    refine Ex.consM (Ph20m fs b f F s y o σ a1 a2 a3 a4 a5) ?_ ?_
    ·refine Ex.ite (Tst.cmpN (i:=10) rfl rfl (Ev.list (Args'.nil ⟨Nat.le_of_ble_eq_true rfl,Cmp.eqInts (ns:=intL (frees' s.ps s.tk o)) (ms:= []) ?_⟩)))
     rcases pick_cases s.ps s.tk o with ⟨e1,e2,e3⟩|⟨i,r,e1,e2,hi,hio,hit,e3⟩
     ·refine rwG (e1 ..) ?_;refine rwG (if_pos (by decide) ..) ?_
      refine Ex.cons (Ex.assignL 10 rfl (Ev.list (Args'.cons (Ev.callB (ns_len hG) rfl Keeps.builtin (Args'.name (i:=2) rfl rfl (Args'.nil (CallP.lenO (gx (i:=0) rfl) (Args'.nil ⟨Nat.le_of_ble_eq_true rfl,?_⟩) (by rw [List.length_map];exact Nat.le_trans hsl (by decide)))))))))
      refine rwG (List.length_map ..) ?_
      refine Ex.cons (Ex.expr (Ev.methN (.builtin "list.append") (i:=2) rfl rfl (Meth.append (gx (i:=0) rfl)) (Keeps.builtin) (Args'.cons (Ev.subNN (i:=6) (j:=9) rfl rfl rfl rfl (Item.dS (Args'.nil (CallP.append (gx (i:=0) rfl) (by rw [List.length_map];exact Nat.le_trans hsl (by decide)) ?_)) hndk hget)))))
      refine rwG (sx ..) ?_
      refine Ex.cons (Ex.expr (Ev.methN (.builtin "list.append") (i:=3) rfl rfl (Meth.append (gx (i:=1) rfl)) (Keeps.builtin) (Args'.name (i:=1) rfl rfl (Args'.nil (CallP.append (gx (i:=1) rfl) (by rw [List.length_map,spotsL_length];exact Nat.le_trans hsl (by decide)) ?_)))))
      refine rwG (sx ..) ?_
      refine Ex.cons (Ex.assignL 1 rfl (Ev.binN (i:=1) rfl rfl (Ev.callB (ns_len hG) rfl Keeps.builtin (Args'.cons (Ev.callG (ns_to_fours hG) (.fk hG rfl) (Args'.cons (Ev.subNN (i:=6) (j:=9) rfl rfl rfl rfl (Item.dS (Args'.nil ?_) hndk hget))))))))
      refine to_fours_spec hG (show 1≤C.rk - 1 from rk_le hrk) (Nat.le_trans hlen (by decide)) (Args'.nil (CallP.lenB (Bin.add ?_) (by rw [fill_length];lia)))
      refine rwGr (spotOf_end ..) ?_
      refine Ex.nil ⟨[],?_,?_⟩
      ·unfold lv20m
       rw [e3,e2,List.length_append,List.length_singleton];rfl
      ·unfold ta20i
       rw [e3,List.map_append,spotsL_snoc,List.map_append];rfl
     ·refine rwG (e1 ..) ?_;refine rwG (if_neg (by rw [decide_eq_false (fun q=>by cases q)];decide)) ?_
      have e4:List.filter (freeP s.ps s.tk o) (List.range s.ps.length)=i::r:=e1
      exact Ex.nil ⟨(intL r).map .int,by rw [e3,e2,e4];rfl,by rw [e3]⟩
    ·rintro lv σ' ⟨r,e⟩
     refine stE e fun _=>?_
     have hpl:pick s.ps s.tk o<(grow s.ps (pick s.ps s.tk o) o).length∧pick s.ps s.tk o≤s.ps.length:=by
      rcases pick_cases s.ps s.tk o with ⟨e1,e2,e3⟩|⟨i,r,e1,e2,hi,hio,hit,e3⟩
      ·rw [e3,e2,List.length_append];exact ⟨Nat.lt_succ_self _,Nat.le_refl _⟩
      ·rw [e3,e2];exact ⟨hi,Nat.le_of_lt hi⟩
     have hes:stepF b s (y,o)=⟨grow s.ps (pick s.ps s.tk o) o,s.tk++ [pick s.ps s.tk o],s.rows++ [(y,o,spotOf b (grow s.ps (pick s.ps s.tk o) o) (pick s.ps s.tk o))]⟩:=rfl
     rw [hes] at es
     revert hpl es
     refine gen (grow s.ps (pick s.ps s.tk o) o) ?_
     intro ps' es hpl
     revert hpl es
     refine gen (pick s.ps s.tk o) ?_
     intro i es hpl
     have hfit:(i:Int)<2^63:=by lia
     refine Ex.cons (Ex.expr (Ev.methN (.builtin "list.append") (i:=8) rfl rfl (Meth.append (gx (i:=4) rfl)) (Keeps.builtin) (Args'.cons (Ev.subN (i:=10) rfl rfl (Ev.int (Item.list (Args'.nil (CallP.append (gx (i:=4) rfl) ?_ ?_)) (by decide) (by decide) rfl))))))
     ·have h1:=tk_foldl b ((items f).take j) ⟨F.ps,[],[]⟩
      rw [←hs] at h1
      refine rwG (List.length_map ..) ?_;refine rwG (List.length_map ..) ?_;refine rwG (h1 ..) ?_;refine rwG (List.length_take ..) ?_
      exact Nat.le_trans (Nat.add_le_add_left (Nat.min_le_right _ _) _) (by rw [items_length];exact Nat.le_trans (Nat.add_le_add_left (tags_le f) 0) (by decide))
     refine rwG (sx ..) ?_
     refine Ex.cons (Ex.setItem (Ev.subN (i:=3) rfl rfl (Ev.subN (i:=10) rfl rfl (Ev.int (Item.list (Item.own (gx (i:=1) rfl) ?_ (Int.natCast_nonneg i) hfit (by rw [Int.toNat_natCast,List.getElem?_map,spotsL_get hpl.1];rfl)) (by decide) (by decide) rfl)))))
     refine Ev.name (i:=7) rfl rfl (Ev.name (i:=9) rfl rfl (SetI.dS (gx (i:=3) rfl) (by rw [hkeys];exact (tags_nodup f).sublist (List.take_sublist _ _)) (Nat.le_trans hrow3 (by decide)) ?_))
     refine rwG (sx ..) ?_;refine rwG (put_snoc (by rw [hkeys];exact nodup_take (tags_nodup f) hy) ..) ?_
     refine Ex.nil ⟨_,es.symm,rfl,?_⟩
     unfold ta20i intL rowsA
     rw [List.map_append,List.map_append,List.map_append];rfl
   ·rw [List.length_map,List.length_range];exact Nat.le_trans hsl (by decide)
  ·rintro lv σ' ⟨s,hs,e⟩
   refine stE e fun t=>?_
   rw [List.length_map,←items_length,List.take_length] at hs
   have eG:stepG b F f=⟨s.ps,F.rows++ [(f.1,s.rows)]⟩:=by rw [hs];rfl
   rw [eG] at ep
   refine Ex.cons (Ex.expr (Ev.methN (.builtin "list.append") (i:=4) rfl rfl (Meth.append (gx (i:=2) rfl)) (Keeps.builtin) (Args'.cons (Ev.nameFz (i:=7) (σ.length+3) rfl rfl (gx (i:=3) rfl) (.dS _) ?_))))
   refine rwG (ex ..) ?_
   refine Args'.nil (CallP.append (gx (i:=2) rfl) (by rw [List.length_map];exact Nat.le_trans hrl (by decide)) ?_)
   refine rwG (sx ..) ?_
   refine Ex.nil ⟨by rw [ep];rfl,?_⟩
   refine rwG (tx ..) ?_;refine rwG (ep ..) ?_
   unfold ta20o placesA
   rw [List.map_append];rfl
 ·rintro lv σ' e
  refine stE e fun t=>?_
  refine rwG (List.length_map ..) ?_;refine rwG (List.take_length ..) ?_
  have hps:=plan_ps_len b fs ⟨[],[]⟩
  have hsh:=plan_short b fs ⟨[],[]⟩ hf (fun p hp=>absurd hp List.not_mem_nil)
  change (plan b fs).ps.length≤0+3*fs.length at hps
  change Short (plan b fs).ps at hsh
  revert h hps hsh
  refine gen (plan b fs) ?_
  intro F h hps hsh
  have hps':F.ps.length≤192:=by lia
  refine Ex.cons (Ex.ret (Ev.tuple (Args'.cons ?_)))
  refine @Ev.methC _ _ _ _ _ _ _ _ _ _ _ _ _ (.builtin "bytes.join") ?_ form_comp (Eq.refl true)
  refine Ev.bytes ⟨Meth.joinB,Keeps.builtin,Args'.cons ?_⟩
  refine Ev.comp [none,none,none] (F.ps.map .bytes) (fun m out σ'=>σ'=σ++ [(a2,.list ((spotsL b F.ps).map .int)),(a3,.list (placesA F.rows))]∧out=((F.ps.take m).map fill).map .bytes) (Ev.nameFz (i:=2) (σ.length+0) rfl rfl (gx (i:=0) rfl) (.list _) ?_) ?_ ?_ (by rw [List.length_map];exact Nat.le_trans hps' (by decide))
  ·refine rwG (ex ..) ?_
   exact ⟨.lst _,rfl,rfl⟩
  ·rintro m w out σ' hm ⟨rfl,rfl⟩
   obtain ⟨p,hp,rfl⟩:=map_at hm
   have hpl:=hsh p (List.mem_of_getElem? hp)
   refine CTurn.name 1 (fun _ _=>rfl) (fun _ _=>rfl) rfl fun cl Cc=>Tsts.nil ?_
   show Ev _ _ _ _ _ _ _
   refine Ev.call (Ev.glob (hk:=comp_kind rfl rfl) (ns_to_fours hG) ⟨_,rfl,Keeps.fk hG rfl,Args'.name (i:=1) rfl rfl (Args'.nil ?_)⟩)
   refine to_fours_spec hG (show 1≤C.rk - 1 from rk_le hrk) (Nat.le_trans hpl (by decide)) ⟨rfl,?_⟩
   rw [List.take_add_one,hp,Option.toList_some,List.map_append,List.map_append];rfl
  ·rintro out σ' ⟨rfl,rfl⟩
   refine rwG (List.length_map ..) ?_;refine rwG (List.take_length ..) ?_
   refine Args'.nil (CallP.joinB (Nat.le_trans (body_le hsh hps') (by decide)) ?_)
   refine Args'.cons (Ev.nameFz (i:=4) (σ.length+1) rfl rfl (gx (i:=1) rfl) (.list _) (Args'.nil ⟨Nat.le_of_ble_eq_true rfl,?_⟩))
   refine rwG (ex ..) ?_;refine rwG (show σ.length=σ.length+0 from rfl) ?_;refine rwG (tx ..) ?_;refine rwG (List.take_zero ..) ?_;refine rwG (List.append_nil ..) ?_
   exact h
end
noncomputable def dirAt (n:Nat)(fs:List Font)(k:Nat):Nat:=12+4*n+((fs.take k).map fun f=>12+16*f.2.length).sum
noncomputable def offB (n:Nat)(fs:List Font)(k:Nat):List UInt8:=((List.range k).map fun j=>be (dirAt n fs j) 4).flatten
noncomputable def recOf (r:Row):Rec:=(r.1,sumT (plainT r.1 r.2.1),r.2.2,(r.2.1.length:Int),0)
noncomputable def dirB (p:Int×List Row):List UInt8:=dirR p.1 (p.2.map recOf)
noncomputable def headB (n:Nat):List UInt8:=be 1953784678 4++be 65536 4++be n 4
noncomputable def planOf (fs:List Font):Ft:=plan (dirAt fs.length fs fs.length) fs
noncomputable def dirsB (rows:List (Int×List Row)):List UInt8:=(rows.map dirB).flatten
noncomputable def writeB (fs:List Font):List UInt8:=headB fs.length++offB fs.length fs fs.length++dirsB (planOf fs).rows++((planOf fs).ps.map fill).flatten
theorem sum_le {α:Type}{g:α→Nat}{m:Nat}: ∀{l:List α},(∀a∈l,g a≤m)→(l.map g).sum≤l.length*m
 | [],_=>Nat.zero_le _
 |a::r,h=>by
  rw [List.map_cons,List.sum_cons,List.length_cons,Nat.succ_mul,Nat.add_comm]
  exact Nat.add_le_add (sum_le fun q hq=>h q (List.mem_cons_of_mem _ hq)) (h a List.mem_cons_self)
theorem dirAt_succ {n:Nat}{fs:List Font}{k:Nat}{f:Font}(h:fs[k]?=some f):dirAt n fs (k+1)=dirAt n fs k+(12+16*f.2.length):=by
 unfold dirAt
 rw [List.take_add_one,h,Option.toList_some,List.map_append,List.sum_append]
 show _+(_+(_+0))=_
 rw [Nat.add_zero]
 exact (Nat.add_assoc _ _ _).symm
theorem FontOk.few {f:Font}(h:FontOk f):1≤f.2.length∧f.2.length≤3:=by
 have:=h.row.pos
 rwa [List.length_map] at this
theorem dirAt_le {n:Nat}{fs:List Font}(hf: ∀f∈fs,FontOk f)(hn:n≤64)(hz:fs.length≤64)(k:Nat):dirAt n fs k≤4108:=by
 unfold dirAt
 have h1:((fs.take k).map fun f=>12+16*f.2.length).sum≤(fs.take k).length*60:=sum_le fun f hm=>by
  have:=(hf f (List.mem_of_mem_take hm)).few.2
  lia
 have h2:(fs.take k).length≤64:=Nat.le_trans (by rw [List.length_take];exact Nat.min_le_right _ _) hz
 lia
theorem offB_succ (n:Nat)(fs:List Font)(k:Nat):offB n fs (k+1)=offB n fs k++be (dirAt n fs k) 4:=by
 unfold offB
 rw [List.range_succ,List.map_append,List.flatten_append,List.map_singleton,List.flatten_singleton]
theorem offB_length (n:Nat)(fs:List Font): ∀k,(offB n fs k).length=4*k
 |0=>rfl
 |k+1=>by rw [offB_succ,List.length_append,offB_length n fs k,be_length,Nat.mul_succ]
theorem headB_length (n:Nat):(headB n).length=12:=by
 unfold headB
 rw [List.length_append,List.length_append,be_length,be_length,be_length]
theorem plan_rows_map (b:Int): ∀(l:List Font) (F:Ft),(l.foldl (stepG b) F).rows.map (fun p=>(p.1,p.2.map itemOf))=F.rows.map (fun p=>(p.1,p.2.map itemOf))++l.map fun f=>(f.1,items f)
 | [],F=>(List.append_nil _).symm
 |f::r,F=>by
  rw [List.foldl_cons,plan_rows_map b r (stepG b F f)]
  have h:=rows_foldl b (items f) ⟨F.ps,[],[]⟩
  show (F.rows++ [(f.1,_)]).map _++_=_
  rw [List.map_append,List.append_assoc,List.map_singleton,h]
  rfl
theorem plan_row {b:Int}{fs:List Font}{k:Nat}{f:Font}(h:fs[k]?=some f): ∃rs,(plan b fs).rows[k]?=some (f.1,rs)∧rs.map itemOf=items f:=by
 have h1:=congrArg (fun l=>l[k]?) (plan_rows_map b fs ⟨[],[]⟩)
 dsimp only at h1
 rw [List.map_nil,List.nil_append,List.getElem?_map,List.getElem?_map,h] at h1
 change ((plan b fs).rows[k]?).map _=_ at h1
 cases e:(plan b fs).rows[k]? with
 |none=>rw [e] at h1;cases h1
 |some p=>
  rw [e] at h1
  obtain ⟨v,rs⟩:=p
  have h2:=Option.some.inj h1
  exact ⟨rs,by rw [show v=f.1 from congrArg Prod.fst h2],congrArg Prod.snd h2⟩
theorem spotOf_le {b:Int}{ps:List (List UInt8)}{N:Nat}(h:Short ps)(hl:ps.length≤N)(i:Nat):b≤spotOf b ps i∧spotOf b ps i≤b+(N*1003:Nat):=by
 unfold spotOf
 have h1:(((ps.take i).map fill).flatten).length≤N*1003:=by
  refine Nat.le_trans (flat_le (n:=1003) fun p hp=>?_) (Nat.mul_le_mul_right _ (by rw [List.length_map,List.length_take];exact Nat.le_trans (Nat.min_le_right _ _) hl))
  obtain ⟨q,hq,rfl⟩:=List.mem_map.mp hp
  exact fill_le (h q (List.mem_of_mem_take hq))
 exact ⟨Int.le_add_of_nonneg_right (Int.natCast_nonneg _),Int.add_le_add_left (Int.ofNat_le.mpr h1) _⟩
noncomputable def Bd (b:Int)(N:Nat)(r:Row):Prop:=b≤r.2.2∧r.2.2≤b+(N*1003:Nat)
theorem rows_bd {b:Int}{N:Nat}: ∀(l:List Item') (s:St),(∀p∈l,p.2.length≤1000)→Short s.ps→s.ps.length+l.length≤N→(∀r∈s.rows,Bd b N r)→ ∀r∈(l.foldl (stepF b) s).rows,Bd b N r
 | [],s,_,_,_,h=>h
 |p::l,s,hl,hs,hn,h=>by
  have hg:=grow_len s.ps (pick s.ps s.tk p.2) p.2
  have hs':=hs.grow (hl p List.mem_cons_self) (pick s.ps s.tk p.2)
  rw [List.length_cons] at hn
  refine rows_bd l (stepF b s p) (fun q hq=>hl q (List.mem_cons_of_mem _ hq)) hs' ?_ fun r hr=>?_
  ·show (grow _ _ _).length+_≤_
   lia
  ·rcases List.mem_append.mp hr with q|q
   ·exact h r q
   ·rw [List.mem_singleton.mp q]
    exact spotOf_le hs' (by lia) _
theorem plan_bd {b:Int}{N:Nat}: ∀(l:List Font) (F:Ft),(∀f∈l,FontOk f)→Short F.ps→F.ps.length+3*l.length≤N→(∀p∈F.rows,∀r∈p.2,Bd b N r)→ ∀p∈(l.foldl (stepG b) F).rows,∀r∈p.2,Bd b N r
 | [],F,_,_,_,h=>h
 |f::l,F,hl,hs,hn,h=>by
  have hf:=hl f List.mem_cons_self
  have h1:=foldl_ps_len b (items f) ⟨F.ps,[],[]⟩
  have h2:=tags_le f
  rw [items_length] at h1
  rw [List.length_cons] at hn
  refine plan_bd l (stepG b F f) (fun q hq=>hl q (List.mem_cons_of_mem _ hq)) (foldl_short b (items f) ⟨F.ps,[],[]⟩ (items_short hf) hs) ?_ fun p hp=>?_
  ·show (List.foldl (stepF b) _ _).ps.length+_≤_
   exact Nat.le_trans (Nat.add_le_add_right h1 _) (by show F.ps.length+_+_≤_;lia)
  ·rcases List.mem_append.mp hp with q|q
   ·exact h p q
   ·rw [List.mem_singleton.mp q]
    exact rows_bd (items f) ⟨F.ps,[],[]⟩ (items_short hf) hs (by rw [items_length];show F.ps.length+_≤_;lia) fun r hr=>absurd hr List.not_mem_nil
theorem at_of_mem {κ α:Type} [DecidableEq κ] {k:κ}{v:α}: ∀{l:List (κ×α)},(l.map (·.1)).Nodup→(k,v)∈l→at' l k=some v
 |p::r,hn,h=>by
  rw [List.map_cons,List.nodup_cons] at hn
  rw [at_cons]
  rcases List.mem_cons.mp h with e|h
  ·subst e;rw [if_pos rfl]
  ·have hne: ¬p.1=k:=fun e=>hn.1 (by rw [e];exact List.mem_map_of_mem (f:=(·.1)) h)
   rw [if_neg hne,at_of_mem hn.2 h]
theorem sumT_in (d:List UInt8):0≤sumT d∧sumT d<256^4:=⟨Int.emod_nonneg _ (by decide),Int.emod_lt_of_pos _ (by decide)⟩
theorem row_ok {b:Int}{f:Font}(hf:FontOk f)(hb:0≤b)(hb2:b≤4108){rs:List Row}(hi:rs.map itemOf=items f)(hd: ∀r∈rs,Bd b 192 r): ∀r∈rs,RecOk (recOf r)∧r.1∈tags f∧r.2.1=tabGet f.2 r.1∧r.2.1.length≤1000:=by
 intro r hr
 have hm:itemOf r∈items f:=hi▸List.mem_map_of_mem hr
 unfold items at hm
 obtain ⟨y,hy,e⟩:=List.mem_map.mp hm
 have e1:y=r.1:=congrArg Prod.fst e
 have e2:tabGet f.2 y=r.2.1:=congrArg Prod.snd e
 subst e1
 have hl:=hf.len hy
 rw [e2] at hl
 refine hideG fun M kM=>?_
 obtain ⟨d1,d2⟩:=hd r hr
 obtain ⟨s1,s2⟩:=sumT_in (plainT r.1 r.2.1)
 refine kM ?_
 clear kM
 exact ⟨⟨tags_isTag hy,s1,s2,Int.le_trans hb d1,by show r.2.2<_;lia,Int.natCast_nonneg _,by show (r.2.1.length:Int)<_;lia⟩,hy,e2.symm,hl⟩
theorem dirB_length {v:Int}{rs:List Row}(h: ∀r∈rs,RecOk (recOf r)):(dirB (v,rs)).length=12+16*rs.length:=by
 unfold dirB dirR
 rw [List.length_append,dirH_length,recs_length (fun r hr=>by obtain ⟨q,hq,rfl⟩:=List.mem_map.mp hr;exact h q hq),List.length_map]
theorem ver_in {v:Int}(h:(versions.any (· ==v))=true):v=65536∨v=1330926671∨v=1953658213:=by
 obtain ⟨z,hz,e⟩:=List.any_eq_true.mp h
 have:=eq_of_beq e
 subst this
 rcases List.mem_cons.mp hz with e|hz
 ·exact .inl e
 rcases List.mem_cons.mp hz with e|hz
 ·exact .inr (.inl e)
 ·exact .inr (.inr (List.mem_singleton.mp hz))
theorem ver_bd {v:Int}(h:(versions.any (· ==v))=true):0≤v∧v<256^4:=by
 rcases ver_in h with rfl|rfl|rfl<;>decide
theorem rs_len {f:Font}{rs:List Row}(h:rs.map itemOf=items f):rs.length=(tags f).length:=by
 rw [←items_length,←h,List.length_map]
theorem rs_keys {f:Font}{rs:List Row}(h:rs.map itemOf=items f):(rowsA rs).map (·.1)=tags f:=by
 rw [←items_fst,←h,List.map_map,List.map_map];rfl
theorem rs_get {f:Font}{rs:List Row}(h:rs.map itemOf=items f){j:Nat}{y:Str}(hy:(tags f)[j]?=some y): ∃r,rs[j]?=some r∧r.1=y:=by
 have h1:((rowsA rs).map (·.1))[j]?=(tags f)[j]?:=congrArg (fun l=>l[j]?) (rs_keys h)
 rw [List.getElem?_map,List.getElem?_map,hy] at h1
 cases e:rs[j]? with
 |none=>rw [e] at h1;cases h1
 |some r=>rw [e] at h1;exact ⟨r,rfl,Option.some.inj h1⟩
section
variable {G:Gl}{C:Cx}{lv:List (Option AVal)}{σ:Own}{x:Prop}{Q:AVal→Own→Prop}{Qn:List (Option AVal)→Own→Prop}{Qr:AVal→Own→Prop}
theorem write_refused (hG:G.frag=KF G.w.params)(hP:ProgOk G.prog)(hrk:2≤C.rk)(hx:x){vs:List AVal}(h:vs.length=0∨(64<vs.length∧vs.length≤1000)):CallP G C lv σ (.ref 421) [.lst vs] Q x:=by
 refine CallP.intro (ok_write_collection hG) rfl (Nat.le_trans (by decide) hrk) (len1 fun _=>rfl) ?_
 intro g L'
 refine Ex.cons (Ex.ite (Run.mono (Q:=fun b _=>b=true) ?_ ?_ id))
 ·refine Tst.not (Tst.chain (Ev.int (Ev.callB (ns_len hG) rfl Keeps.builtin (Args'.name (i:=0) rfl rfl (Args'.nil (CallP.lenL (Cmp.lt ?_) ?_))))))
  ·rcases h with h|h
   ·rw [h,if_neg (by decide)];rfl
   ·refine rwG (decide_eq_true (by lia) ..) ?_;refine rwG (if_pos rfl ..) ?_
    refine Ev.globI (ns_MOST_FONTS hG) (Cmp.le ?_)
    rw [decide_eq_false (by lia)];rfl
  ·lia
 ·rintro b σ' rfl
  refine rwG (if_pos rfl ..) ?_
  exact Ex.cons (Ex.raise hG hP (show 1≤C.rk - 1 from rk_le hrk) hx (Args'.cons (Ev.str (Args'.nil (.one _)))))
noncomputable def lv21o (fs:List Font)(a:Addr)(n:Nat)(t:Nat→Option AVal):List (Option AVal):= [some (.lst (fs.map fontA)),some (.ref a),some (.int (n:Nat)),t 3,t 4,none,none,none,none,none,none,none,none,none,none,none,none,none,none,none,none]
noncomputable def lv21i (fs:List Font)(a:Addr)(n:Nat)(body:List UInt8)(rows:List (Int×List Row))(t:Nat→Option AVal):List (Option AVal):= [some (.lst (fs.map fontA)),some (.ref a),some (.int (n:Nat)),t 3,t 4,some (.bytes body),some (.lst (placesA rows)),t 7,t 8,none,none,none,none,none,none,none,none,none,none,none,none]
noncomputable def Ph21o (fs:List Font)(σ:Own)(a m:Addr)(k:Nat)(lv:List (Option AVal))(σ':Own):Prop:=At (lv21o fs a (dirAt fs.length fs k)) (σ++ [(a,outObj m),(m,.barr (headB fs.length++offB fs.length fs k))]) lv σ'
noncomputable def Ph21i (fs:List Font)(body:List UInt8)(F:Ft)(σ:Own)(a m:Addr)(k:Nat)(lv:List (Option AVal))(σ':Own):Prop:=At (lv21i fs a (dirAt fs.length fs fs.length) body F.rows) (σ++ [(a,outObj m),(m,.barr (headB fs.length++offB fs.length fs fs.length++dirsB (F.rows.take k)))]) lv σ'
noncomputable def Ph21c (rs:List Row)(τ:Own)(j:Nat)(out:List AVal)(σ':Own):Prop:=σ'=τ∧out=((rs.map recOf).take j).map recA
set_option maxHeartbeats 4000000 in
theorem write_collection_spec (hG:G.frag=KF G.w.params)(hrk:5≤C.rk){fs:List Font}(hf: ∀f∈fs,FontOk f)(h0:0<fs.length)(hz:fs.length≤64)(h:Q (.bytes (writeB fs)) σ):
  CallN G C lv σ (.ref 421) [.lst (fs.map fontA)] Q x:=by
 have hl:(fs.map fontA).length=fs.length:=List.length_map ..
 have hn0:(0:Int)≤fs.length:=Int.natCast_nonneg _
 have hn1:(fs.length:Int)≤64:=Int.ofNat_le.mpr hz
 have hlen:fs.length≤1099511627776:=Nat.le_trans hz (by decide)
 refine CallN.forget σ.length ?_
 refine CallN.intro (ok_write_collection hG) rfl (Nat.le_trans (by decide) hrk) (len1 fun _=>rfl) ?_
 intro g L'
 refine ExN.step (Ex.ite (Tst.not (Tst.chain (Ev.int (Ev.callB (ns_len hG) rfl Keeps.builtin (Args'.name (i:=0) rfl rfl (Args'.nil (CallP.lenL (Cmp.lt ?_) (by rw [hl];exact hlen)))))))))
 refine rwG (hl ..) ?_;refine rwG (decide_eq_true (Int.natCast_pos.mpr h0) ..) ?_;refine rwG (if_pos rfl ..) ?_
 refine Ev.globI (ns_MOST_FONTS hG) (Cmp.le ?_)
 refine rwG (decide_eq_true hn1 ..) ?_;refine rwG (if_neg (by decide) ..) ?_
 refine Ex.nil (ExN.cons (ExN.assign 1 rfl (.inl ⟨rfl,rfl⟩) (EvN.call (Ev.glob (ns_OctetsOut hG) ⟨_,rfl,Keeps.fk hG rfl,ArgsN.nil (out_new hG (show 2≤C.rk - 1 from rk_le hrk) fun a m=>?_)⟩))))
 refine ExN.cons (ExN.expr (EvN.meth (.ref 238) (Ev.name (i:=1) rfl rfl ⟨Meth.inst get_two1 (mo_OctetsOut_u32 hG) rfl,Keeps.fk hG rfl,ArgsN.cons (.of (Ev.globI (ns_COLLECTION hG) (ArgsN.nil ?_)))⟩)))
 refine out_u32 hG (show 2≤C.rk - 1 from rk_le hrk) get_two1 get_two2 (by decide) (by decide) (by decide) ?_
 refine rwG (set_two2 ..) ?_
 refine ExN.cons (ExN.expr (EvN.meth (.ref 238) (Ev.name (i:=1) rfl rfl ⟨Meth.inst get_two1 (mo_OctetsOut_u32 hG) rfl,Keeps.fk hG rfl,ArgsN.cons (.of (Ev.int (ArgsN.nil ?_)))⟩)))
 refine out_u32 hG (show 2≤C.rk - 1 from rk_le hrk) get_two1 get_two2 (by decide) (by decide) (by rw [List.nil_append,be_length];decide) ?_
 refine rwG (set_two2 ..) ?_
 refine ExN.cons (ExN.expr (EvN.meth (.ref 238) (Ev.name (i:=1) rfl rfl ⟨Meth.inst get_two1 (mo_OctetsOut_u32 hG) rfl,Keeps.fk hG rfl,ArgsN.cons (.of (Ev.callB (ns_len hG) rfl Keeps.builtin (Args'.name (i:=0) rfl rfl (Args'.nil (CallP.lenL (ArgsN.nil ?_) (by rw [hl];exact hlen))))))⟩)))
 refine rwG (hl ..) ?_
 refine out_u32 hG (show 2≤C.rk - 1 from rk_le hrk) get_two1 get_two2 hn0 (Int.lt_of_le_of_lt hn1 (by decide)) (by rw [List.nil_append,List.length_append,be_length,be_length];decide) ?_
 refine rwG (set_two2 ..) ?_
 refine ExN.step (Ex.assignL 2 rfl (Ev.bin (Ev.globI (ns_HEADER_SIZE hG) (Ev.binI (Ev.callB (ns_len hG) rfl Keeps.builtin (Args'.name (i:=0) rfl rfl (Args'.nil (CallP.lenL (Bin.mulL (Bin.add ?_) (by decide) (by decide)) (by rw [hl];exact hlen)))))))))
 refine rwG (hl ..) ?_
 refine ExN.cons (ExN.for (fs.map fontA) (Ph21o fs σ a m) ?_ ?_ ?_)
 ·refine Ev.name (i:=0) rfl rfl ⟨.lst _,?_,?_⟩
  rotate_left
  ·show _=σ++ [(a,outObj m),(m,.barr (headB fs.length++ []))]
   rw [List.append_nil];rfl
  ·unfold lv21o
   have e:((dirAt fs.length fs 0:Nat):Int)=12+4*(fs.length:Int):=by
    show ((12+4*fs.length+0:Nat):Int)=_
    exact Eq.symm ((fun {a}{n}=>Int.mem_toNat?.mp) rfl)
   rw [e];rfl
 ·rintro k w lv σ' hk e
  refine stE e fun t=>?_
  obtain ⟨f,hfk,rfl⟩:=map_at hk
  have Fo:=hf f (List.mem_of_getElem? hfk)
  have hkn:k<fs.length:=(List.getElem?_eq_some_iff.mp hfk).1
  have hda:=dirAt_le hf hz hz k
  have hndk:((tabA f.2).map (·.1)).Nodup:=by rw [tab_keys];exact Fo.row.nodup
  refine Sto.tuple rfl (Stos.name 3 rfl (Stos.cons (Sto.name 4 rfl (.inr ⟨rfl,_,rfl,rfl⟩) (Stos.nil ?_))))
  refine ExN.step (Ex.expr (Ev.callG (ns_need_tables hG) (.fk hG rfl) (Args'.name (i:=3) rfl rfl (Args'.name (i:=4) rfl rfl (Args'.nil ?_)))))
  refine need_tables_spec hG (show 1≤C.rk - 1 from rk_le hrk) Fo ?_
  refine ExN.cons (ExN.expr (EvN.meth (.ref 238) (Ev.name (i:=1) rfl rfl ⟨Meth.inst get_two1 (mo_OctetsOut_u32 hG) rfl,Keeps.fk hG rfl,ArgsN.cons (.of (Ev.name (i:=2) rfl rfl (ArgsN.nil ?_)))⟩)))
  refine out_u32 hG (show 2≤C.rk - 1 from rk_le hrk) get_two1 get_two2 (Int.natCast_nonneg _) (by lia) (by rw [List.length_append,headB_length,offB_length];lia) ?_
  refine rwG (set_two2 ..) ?_;refine rwG (List.append_assoc ..) ?_;refine rwGr (offB_succ ..) ?_
  refine ExN.step (Ex.assignL 2 rfl (Ev.binN (i:=2) rfl rfl (Ev.callG (ns_directory_size hG) (.fk hG rfl) (Args'.cons (Ev.callB (ns_len hG) rfl Keeps.builtin (Args'.name (i:=4) rfl rfl (Args'.nil (CallP.lenD hndk (Args'.nil ?_) ?_))))))))
  ·refine rwG (List.length_map ..) ?_
   refine directory_size_spec hG (show 1≤C.rk - 1 from rk_le hrk) (Bin.add (ExN.nil ⟨?_,rfl⟩))
   unfold lv21o
   have e:((dirAt fs.length fs k:Nat):Int)+(12+16*(f.2.length:Int))=((dirAt fs.length fs k+(12+16*f.2.length):Nat):Int):=by exact Int.mem_toNat?.mp rfl
   rw [e,dirAt_succ hfk];rfl
  ·rw [List.length_map];exact Nat.le_trans Fo.few.2 (by decide)
 ·rintro lv σ' e
  refine stE e fun t=>?_
  refine rwG (hl ..) ?_
  have hw:=dirAt_le (n:=fs.length) hf hz hz fs.length
  refine ExN.step (Ex.assignT (Ev.callG (ns_shared_spots hG) (.fk hG rfl) (Args'.name (i:=0) rfl rfl (Args'.name (i:=2) rfl rfl (Args'.nil ?_)))))
  refine shared_spots_spec hG (show 2≤C.rk - 1 from rk_le hrk) hf hz ?_
  refine Sto.tuple rfl (Stos.name 5 rfl (Stos.cons (Sto.name 6 rfl (.inr ⟨rfl,_,rfl,rfl⟩) (Stos.nil ?_))))
  have hrow: ∀(k:Nat) (f:Font),fs[k]?=some f→ ∃rs:List Row,(planOf fs).rows[k]?=some (f.1,rs)∧rs.map itemOf=items f∧ ∀r∈rs,RecOk (recOf r)∧r.1∈tags f∧r.2.1=tabGet f.2 r.1∧r.2.1.length≤1000:=by
   intro k f hk
   obtain ⟨rs,h1,h2⟩:=plan_row (b:=((dirAt fs.length fs fs.length:Nat):Int)) hk
   refine ⟨rs,h1,h2,row_ok (hf f (List.mem_of_getElem? hk)) (Int.natCast_nonneg _) (Int.ofNat_le.mpr hw) h2 fun r hr=>?_⟩
   exact plan_bd (N:=192) fs ⟨[],[]⟩ hf (fun p hp=>absurd hp List.not_mem_nil) (by show 0+_≤_;lia) (fun p hp=>absurd hp List.not_mem_nil) _ (List.mem_of_getElem? h1) r hr
  have hps:=plan_ps_len ((dirAt fs.length fs fs.length:Nat):Int) fs ⟨[],[]⟩
  have hsh:=plan_short ((dirAt fs.length fs fs.length:Nat):Int) fs ⟨[],[]⟩ hf (fun p hp=>absurd hp List.not_mem_nil)
  change (planOf fs).ps.length≤0+3*fs.length at hps
  change Short (planOf fs).ps at hsh
  have hbl:=body_le hsh (by lia)
  have hdl: ∀k,(dirsB ((planOf fs).rows.take k)).length≤k*60:=fun k=>by
   refine Nat.le_trans (flat_le (n:=60) fun d hd=>?_) (Nat.mul_le_mul_right _ (by rw [List.length_map,List.length_take];exact Nat.min_le_left _ _))
   obtain ⟨p,hp,rfl⟩:=List.mem_map.mp hd
   refine hideG fun M kM=>?_
   obtain ⟨j,hj⟩:=List.mem_iff_getElem?.mp (List.mem_of_mem_take hp)
   have hjl:j<fs.length:=by
    have h1:=(List.getElem?_eq_some_iff.mp hj).1
    have h2:=plan_rows_len ((dirAt fs.length fs fs.length:Nat):Int) fs ⟨[],[]⟩
    change (planOf fs).rows.length=0+fs.length at h2
    lia
   obtain ⟨rs,e1,e2,e3⟩:=hrow j fs[j] (List.getElem?_eq_getElem hjl)
   refine kM ?_
   clear kM
   rw [hj] at e1
   refine rwG (Option.some.inj e1 ..) ?_;refine rwG (dirB_length fun r hr=>(e3 r hr).1 ..) ?_;refine rwG (rs_len e2 ..) ?_
   have:=tags_le fs[j]
   lia
  unfold writeB at h
  change ExN G _ (List.set (List.set _ 5 (some (.bytes ((planOf fs).ps.map fill).flatten))) 6 (some (.lst (placesA (planOf fs).rows)))) _ _ _ _ _
  have hrn:=plan_rows_len ((dirAt fs.length fs fs.length:Nat):Int) fs ⟨[],[]⟩
  change (planOf fs).rows.length=0+fs.length at hrn
  rw [Nat.zero_add] at hrn
  revert h hrow hbl hdl hrn
  refine gen (planOf fs) ?_
  intro F h hrow hbl hdl hrn
  revert h hbl
  refine gen ((F.ps.map fill).flatten) ?_
  intro body h hbl
  refine ExN.cons (ExN.for ((List.range fs.length).map fun i=> .int ((0:Int)+(i:Nat)*1)) (Ph21i fs body F σ a m) ?_ ?_ ?_)
  ·refine Ev.callB (ns_range hG) rfl Keeps.type (Args'.cons (Ev.callB (ns_len hG) rfl Keeps.builtin (Args'.name (i:=0) rfl rfl (Args'.nil (CallP.lenL (Args'.nil ?_) (by rw [hl];exact hlen))))))
   refine rwG (hl ..) ?_
   refine CallP.range1 ⟨.rng _ _ _,rfl,?_⟩ (by exact Int.neg_ofNat_le_natCast (2^60) fs.length) (by lia)
   show _=σ++ [(a,outObj m),(m,.barr (headB fs.length++offB fs.length fs fs.length++ []))]
   rw [List.append_nil]
  ·rintro k w lv σ' hk e
   refine stE e fun t=>?_
   obtain ⟨k',hk',rfl⟩:=map_at hk
   have hkn:k<fs.length:=by
    have:=(List.getElem?_eq_some_iff.mp hk').1
    rwa [List.length_range] at this
   rw [List.getElem?_range hkn] at hk'
   cases hk'
   refine rwG (show (0:Int)+(k:Nat)*1=(k:Int) by lia) ?_
   obtain ⟨f,hfk⟩: ∃f,fs[k]?=some f:=⟨fs[k],List.getElem?_eq_getElem hkn⟩
   have Fo:=hf f (List.mem_of_getElem? hfk)
   refine hideG fun M kM=>?_
   obtain ⟨rs,hrs,hit,hok⟩:=hrow k f hfk
   refine kM ?_
   clear kM
   have hkfit:(k:Int)<2^63:=by lia
   refine Sto.name 7 rfl (.inr ⟨rfl,_,rfl,rfl⟩) ?_
   refine ExN.step (Ex.assignT (Ev.subNN (i:=0) (j:=7) rfl rfl rfl rfl (Item.list (v:=fontA f) ?_ (Int.natCast_nonneg k) hkfit (by rw [Int.toNat_natCast,List.getElem?_map,hfk];rfl))))
   refine Sto.tuple rfl (Stos.name 3 rfl (Stos.cons (Sto.name 4 rfl (.inr ⟨rfl,_,rfl,rfl⟩) (Stos.nil ?_))))
   have hkeys:=rs_keys hit
   have hndr:((rowsA rs).map (·.1)).Nodup:=by rw [hkeys];exact tags_nodup f
   have hndk:((tabA f.2).map (·.1)).Nodup:=by rw [tab_keys];exact Fo.row.nodup
   have hrl:rs.length=f.2.length:=(rs_len hit).trans Fo.tagsLen
   refine ExN.step (Ex.assignComp 8 [none,none,none,none,none,some 7,some 6,some 4] ((tags f).map .str) (Ph21c rs (σ++ [(a,outObj m),(m,.barr (headB fs.length++offB fs.length fs fs.length++dirsB (F.rows.take k)))])) rfl rfl rfl ?_ ?_ ?_ ?_)
   ·refine Ev.callB (ns_sorted hG) rfl Keeps.builtin (Args'.name (i:=4) rfl rfl (Args'.nil (CallP.sortedD (by rw [tab_keys];exact Fo.row) ?_)))
    refine rwG (tab_keys ..) ?_
    exact ⟨.lst _,rfl,rfl⟩
   ·rintro j w out σ' hj ⟨rfl,rfl⟩
    obtain ⟨y,hy,rfl⟩:=map_at hj
    obtain ⟨r,hr,rfl⟩:=rs_get hit hy
    refine hideG fun M kM=>?_
    obtain ⟨_,hym,ho,hol⟩:=hok r (List.mem_of_getElem? hr)
    refine kM ?_
    clear kM
    have hget:at' (tabA f.2) r.1=some (.bytes r.2.1):=by rw [ho];exact at_tab (tabGet_at (tags_mem hym))
    have hgr:at' (rowsA rs) r.1=some (.int r.2.2):=at_of_mem hndr (List.mem_map.mpr ⟨r,List.mem_of_getElem? hr,rfl⟩)
    refine CTurn.name 1 (fun _ _=>rfl) (fun _ _=>rfl) rfl fun cl Cc=>Tsts.nil ?_
    show Ev _ _ _ _ _ _ _
    refine Ev.call (Ev.glob (hk:=comp_kind rfl rfl) (ns_Record hG) ⟨_,rfl,Keeps.fk hG rfl,Args'.name (i:=1) rfl rfl (Args'.cons ?_)⟩)
    refine Ev.call (Ev.glob (hk:=comp_kind rfl rfl) (ns_table_sum hG) ⟨_,rfl,Keeps.fk hG rfl,Args'.name (i:=1) rfl rfl (Args'.cons (Ev.subNN (i:=7) (j:=1) rfl rfl rfl rfl (Item.dS (Args'.nil ?_) hndk hget)))⟩)
    refine table_sum_spec hG (show 4≤C.rk - 1 from rk_le hrk) (Nat.le_trans hol (by decide)) ?_
    refine Args'.cons (Ev.sub (Ev.subNN (i:=6) (j:=5) rfl rfl rfl rfl (Item.list (v:= .dS (rowsA rs)) (Ev.name (i:=1) rfl rfl (Item.dS ?_ hndr hgr)) (Int.natCast_nonneg k) hkfit (by rw [Int.toNat_natCast,List.getElem?_map,hrs];rfl))))
    refine Args'.cons (Ev.call (Ev.built (hk:=comp_kind rfl rfl) (ns_len hG) rfl ⟨_,rfl,Keeps.builtin,Args'.cons (Ev.subNN (i:=7) (j:=1) rfl rfl rfl rfl (Item.dS (Args'.nil (CallP.lenB (Args'.int (Args'.nil ?_)) (Nat.le_trans hol (by decide)))) hndk hget))⟩))
    refine record_new hG (show 2≤C.rk - 1 from rk_le hrk) ⟨rfl,?_⟩
    rw [List.take_add_one,List.getElem?_map,hr,Option.map_some,Option.toList_some,List.map_append];rfl
   ·rintro out σ' ⟨rfl,rfl⟩
    have hty:(rs.map recOf).length≤((tags f).map AVal.str).length:=by rw [List.length_map,List.length_map,rs_len hit];exact Nat.le_refl _
    refine rwG (List.take_of_length_le hty ..) ?_
    obtain ⟨v0,v1⟩:=ver_bd Fo.ver
    have few:=Fo.few
    have hdk:=hdl k
    have hdb:=dirB_length (v:=f.1) fun r hr=>(hok r hr).1
    refine ExN.cons (ExN.expr (EvN.meth (.ref 255) (Ev.name (i:=1) rfl rfl ⟨Meth.inst get_two1 (mo_OctetsOut_add hG) rfl,Keeps.fk hG rfl,ArgsN.cons (EvN.call (Ev.glob (ns_directory_octets hG) ⟨_,rfl,Keeps.fk hG rfl,ArgsN.cons (.of (Ev.name (i:=3) rfl rfl (ArgsN.cons (.of (Ev.name (i:=8) rfl rfl (ArgsN.nil ?_))))))⟩))⟩)))
    refine directory_octets_spec hG (show 3≤C.rk - 1 from rk_le hrk) v0 v1 (by rw [List.length_map,hrl];exact few.1) (by rw [List.length_map,hrl];exact few.2) (fun r hr=>by obtain ⟨q,hq,rfl⟩:=List.mem_map.mp hr;exact (hok q hq).1) (ArgsN.nil ?_)
    refine out_add hG (show 1≤C.rk - 1 from rk_le hrk) get_two1 get_two2 ?_ ?_
    ·show _+(dirB (f.1,rs)).length≤_
     refine rwG (hdb ..) ?_;refine rwG (List.length_append ..) ?_;refine rwG (List.length_append ..) ?_;refine rwG (headB_length ..) ?_;refine rwG (offB_length ..) ?_;refine rwG (hrl ..) ?_
     lia
    ·refine rwG (set_two2 ..) ?_;refine rwG (List.append_assoc ..) ?_
     refine ExN.nil ⟨rfl,?_⟩
     have e:dirsB (F.rows.take (k+1))=dirsB (F.rows.take k)++dirR f.1 (rs.map recOf):=by
      unfold dirsB
      rw [List.take_add_one,hrs,Option.toList_some,List.map_append,List.flatten_append,List.map_singleton,List.flatten_singleton];rfl
     rw [e,List.append_assoc]
   ·rw [List.length_map];exact Nat.le_trans (tags_le f) (by decide)
  ·rintro lv σ' e
   refine stE e fun t=>?_
   have hdk:=hdl fs.length
   refine rwG (List.length_map ..) ?_;refine rwG (List.length_range ..) ?_
   have etk:F.rows.take fs.length=F.rows:=List.take_of_length_le (Nat.le_of_eq hrn)
   rw [etk] at hdk⊢
   refine ExN.cons (ExN.expr (EvN.meth (.ref 255) (Ev.name (i:=1) rfl rfl ⟨Meth.inst get_two1 (mo_OctetsOut_add hG) rfl,Keeps.fk hG rfl,ArgsN.cons (.of (Ev.name (i:=5) rfl rfl (ArgsN.nil ?_)))⟩)))
   refine out_add hG (show 1≤C.rk - 1 from rk_le hrk) get_two1 get_two2 (by rw [List.length_append,List.length_append,headB_length,offB_length];lia) ?_
   refine rwG (set_two2 ..) ?_
   refine ExN.step (Ex.ret (Ev.methN (.ref 269) (i:=1) rfl rfl (Meth.inst get_two1 (mo_OctetsOut_octets hG) rfl) (.fk hG rfl) (Args'.nil ?_)))
   refine out_octets hG (show 1≤C.rk - 1 from rk_le hrk) get_two1 get_two2 (by rw [List.length_append,List.length_append,List.length_append,headB_length,offB_length];lia) ?_
   refine rwG (List.take_left' rfl ..) ?_
   exact h
end
theorem cut_nat {α:Type}{d:List α}{i n:Nat}(h:i+n≤d.length):cut d (some (i:Int)) (some ((i:Int)+n))=(d.drop i).take n:=by
 unfold cut
 rw [Option.elim_some,Option.elim_some]
 have e1:clipAt d.length (i:Int)=min i d.length:=KBc.clip_lit _ i
 have e2:clipAt d.length ((i:Int)+n)=min (i+n) d.length:=KBc.clip_lit _ (i+n)
 rw [e1,e2,Nat.min_eq_left (Nat.le_trans (Nat.le_add_right _ _) h),Nat.min_eq_left h,Nat.add_sub_cancel_left]
noncomputable def wordI (d:List UInt8)(i:Nat):Int:=((d[i]?.getD 0).toNat:Int)*256^(3 - i %4)
noncomputable def sumW (d:List UInt8)(n:Nat):Int:=((List.range n).map (wordI d)).sum
theorem sumW_succ (d:List UInt8)(n:Nat):sumW d (n+1)=sumW d n+wordI d n:=by
 unfold sumW
 rw [List.range_succ,List.map_append,List.sum_append,List.map_singleton,List.sum_singleton]
theorem drop_cons {α:Type}{d:List α}{i:Nat}{a:α}(h:d[i]?=some a):d.drop i=a::d.drop (i+1):=by
 obtain ⟨h1,h2⟩:=List.getElem?_eq_some_iff.mp h
 rw [←h2,List.drop_eq_getElem_cons h1]
theorem words_sum (d:List UInt8): ∀n,4*n≤d.length→words d n=sumW d (4*n)
 |0,_=>rfl
 |n+1,h=>by
  have hx: ∀j,j<4→ ∃c,d[4*n+j]?=some c:=fun j hj=>⟨d[4*n+j]'(by lia),List.getElem?_eq_getElem _⟩
  obtain ⟨a0,e0⟩: ∃c,d[4*n]?=some c:=hx 0 (by decide)
  refine hideG fun M kM=>?_
  obtain ⟨a1,e1⟩:=hx 1 (by decide)
  obtain ⟨a2,e2⟩:=hx 2 (by decide)
  obtain ⟨a3,e3⟩:=hx 3 (by decide)
  refine kM ?_
  clear kM
  have ec:cut d (some (0+(n:Nat)*4)) (some (0+(n:Nat)*4+4))= [a0,a1,a2,a3]:=by
   rw [show (0:Int)+(n:Nat)*4=((4*n:Nat):Int) by lia]
   have:=cut_nat (d:=d) (i:=4*n) (n:=4) (by exact Nat.succ_le_of_lt h)
   rw [show ((4:Nat):Int)=4 from rfl] at this
   rw [this,drop_cons e0,drop_cons e1,drop_cons e2,drop_cons e3];rfl
  unfold words
  have w: ∀j c,j<4→d[4*n+j]?=some c→wordI d (4*n+j)=(c.toNat:Int)*256^(3 - j):=fun j c hj e=>by
   unfold wordI
   rw [e,Nat.mul_add_mod,Nat.mod_eq_of_lt hj];rfl
  rw [ec,words_sum d n (by exact Nat.le_of_add_right_le h),show 4*(n+1)=4*n+0+1+1+1+1 from rfl,sumW_succ,sumW_succ,sumW_succ,sumW_succ,show wordI d (4*n)=_ from w 0 a0 (by decide) e0,w 1 a1 (by decide) e1,w 2 a2 (by decide) e2,w 3 a3 (by decide) e3]
  show _+((((0*256+(a0.toNat:Int))*256+a1.toNat)*256+a2.toNat)*256+a3.toNat)=sumW d (4*n)+(a0.toNat:Int)*16777216+(a1.toNat:Int)*65536+(a2.toNat:Int)*256+(a3.toNat:Int)*1
  lia
theorem fill_get (d:List UInt8)(i:Nat):(fill d)[i]?.getD 0=d[i]?.getD 0:=by
 unfold fill
 rcases Nat.lt_or_ge i d.length with h|h
 ·rw [List.getElem?_append_left h]
 ·rw [List.getElem?_append_right h,List.getElem?_eq_none h,List.getElem?_replicate]
  split<;>rfl
theorem sumW_fill (d:List UInt8)(n:Nat):sumW (fill d) n=sumW d n:=by
 unfold sumW
 congr 1
 refine List.map_congr_left fun i _=>?_
 unfold wordI
 rw [fill_get]
theorem sumW_more (d:List UInt8): ∀j,sumW d (d.length+j)=sumW d d.length
 |0=>rfl
 |j+1=>by
  rw [←Nat.add_assoc,sumW_succ,sumW_more d j]
  have:wordI d (d.length+j)=0:=by
   unfold wordI
   rw [List.getElem?_eq_none (Nat.le_add_right _ _)]
   exact Int.zero_mul _
  rw [this,Int.add_zero]
theorem sumT_eq (d:List UInt8):sumT d=sumW d d.length %4294967296:=by
 have h:=fill_length d
 unfold sumT
 rw [words_sum _ _ (by exact Nat.mul_div_le (fill d).length 4),sumW_fill,show 4*((fill d).length/4)=d.length+(4*((fill d).length/4) - d.length) by lia,sumW_more]
section
variable {κ α:Type} [DecidableEq κ]
theorem at_map {β:Type}(g:α→β)(k:κ): ∀l:List (κ×α),at' (l.map fun p=>(p.1,g p.2)) k=(at' l k).map g
 | []=>rfl
 |p::r=>by
  rw [List.map_cons,at_cons,at_cons,at_map g k r]
  split<;>rfl
theorem at_append (l r:List (κ×α))(k:κ):at' (l++r) k=(at' l k).or (at' r k):=by
 induction l with
 |nil=>rfl
 |cons p l ih=>
  rw [List.cons_append,at_cons,at_cons,ih]
  split<;>rfl
theorem at_none {l:List (κ×α)}{k:κ}(h:k∉l.map (·.1)):at' l k=none:=by
 cases e:at' l k with
 |none=>rfl
 |some v=>exact absurd (List.mem_map_of_mem (f:=(·.1)) (at_mem e)) h
theorem put_mem {l:List (κ×α)}{k:κ}{v:α}(h:k∈l.map (·.1)):put l k v=l.map fun kv=>if kv.1=k then (kv.1,v) else kv:=by
 unfold put
 obtain ⟨q,hq,e⟩:=List.mem_map.mp h
 rw [if_pos (List.any_eq_true.mpr ⟨q,hq,decide_eq_true e⟩)]
theorem at_put (l:List (κ×α))(k k':κ)(v:α):at' (put l k v) k'=if k=k' then some v else at' l k':=by
 by_cases h:k∈l.map (·.1)
 ·rw [put_mem h]
  have key: ∀l:List (κ×α),at' (l.map fun kv=>if kv.1=k then (kv.1,v) else kv) k'=if k=k' then (at' l k').map (fun _=>v) else at' l k':=by
   intro l
   induction l with
   |nil=>split<;>rfl
   |cons p r ih=>
    rw [List.map_cons,at_cons,at_cons,ih]
    by_cases e:p.1=k
    ·rw [if_pos e]
     dsimp only
     by_cases e2:k=k'
     ·rw [if_pos e2,if_pos (e.trans e2),if_pos e2,if_pos (e.trans e2)];rfl
     ·rw [if_neg e2,if_neg e2,e,if_neg e2,if_neg e2]
    ·rw [if_neg e]
     by_cases e2:k=k'
     ·have: ¬p.1=k':=fun q=>e (q.trans e2.symm)
      rw [if_pos e2,if_neg this,if_neg this,if_pos e2]
     ·rw [if_neg e2,if_neg e2]
  rw [key]
  by_cases e2:k=k'
  ·subst e2
   obtain ⟨w,hw⟩:=at_some h
   rw [if_pos rfl,if_pos rfl,hw];rfl
  ·rw [if_neg e2,if_neg e2]
 ·rw [put_snoc h,at_append,at_cons]
  by_cases e2:k=k'
  ·subst e2
   rw [if_pos rfl,if_pos rfl,at_none h];rfl
  ·rw [if_neg e2,if_neg e2]
   cases at' l k'<;>rfl
theorem put_nodup {l:List (κ×α)}(k:κ)(v:α)(h:(l.map (·.1)).Nodup):((put l k v).map (·.1)).Nodup∧(put l k v).length≤l.length+1:=by
 by_cases hm:k∈l.map (·.1)
 ·rw [put_mem hm,List.map_map,List.length_map]
  refine ⟨?_,Nat.le_succ _⟩
  have:((fun p:κ×α=>p.1)∘fun kv:κ×α=>if kv.1=k then (kv.1,v) else kv)=fun p:κ×α=>p.1:=by
   funext p
   show (if p.1=k then (p.1,v) else p).1=p.1
   split<;>rfl
  rw [this];exact h
 ·rw [put_snoc hm,List.map_append,List.length_append]
  refine ⟨List.nodup_append.mpr ⟨h,by simp,fun a ha b hb e=>?_⟩,Nat.le_refl _⟩
  rw [List.map_singleton,List.mem_singleton] at hb
  rw [e,hb] at ha
  exact hm ha
end
theorem frees_snoc (ps:List (List UInt8))(tk:List Nat)(i:Nat)(o:List UInt8):frees' ps (tk++ [i]) o=(frees' ps tk o).filter fun j=>!(j==i):=by
 unfold frees'
 rw [List.filter_filter]
 refine List.filter_congr fun j _=>?_
 unfold freeP
 rw [List.map_append,List.any_append,List.map_singleton,List.any_cons,List.any_nil,Bool.or_false,Bool.not_or,Bool.and_comm (!(j==i)),Bool.and_assoc]
 congr 2
 have:((i:Int)==(j:Int))=(j==i):=by
  rw [Bool.eq_iff_iff,beq_iff_eq,beq_iff_eq]
  lia
 rw [this]
theorem frees_grow (ps:List (List UInt8))(tk:List Nat)(o o':List UInt8):frees' (ps++ [o']) tk o=frees' ps tk o++(if freeP (ps++ [o']) tk o ps.length then [ps.length] else []):=by
 unfold frees'
 rw [List.length_append,List.length_singleton,filt_succ]
 congr 1
 refine List.filter_congr fun j hj=>?_
 unfold freeP
 rw [List.getElem?_append_left (List.mem_range.mp hj)]
theorem freeP_new (ps:List (List UInt8))(tk:List Nat)(o o':List UInt8):freeP (ps++ [o']) tk o ps.length=((o'==o)&&!((intL tk).any (· ==(ps.length:Int)))):=freeP_at (by rw [List.getElem?_append_right (Nat.le_refl _),Nat.sub_self];rfl)
structure Rel (b:Int)(s:St)(S:List (List UInt8×List Int))(U:List (List UInt8×Int)):Prop where
 nS:(S.map (·.1)).Nodup
 nU:(U.map (·.1)).Nodup
 lS:S.length≤s.ps.length
 lU:U.length≤s.tk.length
 spots: ∀o,(at' S o).getD []=(frees' s.ps [] o).map (spotOf b s.ps)
 used: ∀o,∃t:Nat,(at' U o).getD 0=t∧frees' s.ps s.tk o=(frees' s.ps [] o).drop t∧t≤(frees' s.ps [] o).length
 old: ∀i∈s.tk,i<s.ps.length
theorem frees_nodup (ps:List (List UInt8))(tk:List Nat)(o:List UInt8):(frees' ps tk o).Nodup:=List.Pairwise.filter _ List.nodup_range
theorem filter_ne {l:List Nat}{i:Nat}(h:i∉l):l.filter (fun j=>!(j==i))=l:=by
 rw [List.filter_eq_self]
 intro j hj
 rw [Bool.not_eq_true',beq_eq_false_iff_ne]
 exact fun e=>h (e▸hj)
theorem Rel.fresh {b:Int}{s:St}{S:List (List UInt8×List Int)}{U:List (List UInt8×Int)}(h:Rel b s S U)(rows:List Row):Rel b ⟨s.ps,[],rows⟩ S []:=
 ⟨h.nS,List.nodup_nil,h.lS,Nat.le_refl _,h.spots,fun o=>⟨0,rfl,rfl,Nat.zero_le _⟩,fun i hi=>absurd hi List.not_mem_nil⟩
theorem Rel.init (b:Int):Rel b ⟨[],[],[]⟩ [] []:=
 ⟨List.nodup_nil,List.nodup_nil,Nat.le_refl _,Nat.le_refl _,fun o=>rfl,fun o=>⟨0,rfl,rfl,Nat.zero_le _⟩,fun i hi=>absurd hi List.not_mem_nil⟩
theorem Rel.step {b : Int} {s : St} {S : List (List UInt8 × List Int)} {U : List (List UInt8 × Int)} (h : Rel b s S U) (y : Str) (o : List UInt8) :
  ∃ t : Nat,(at' U o).getD 0 = t ∧
   ((t = ((at' S o).getD []).length ∧ grow s.ps (pick s.ps s.tk o) o = s.ps ++ [o] ∧ pick s.ps s.tk o = s.ps.length ∧ Rel b (stepF b s (y,o)) (put S o ((at' S o).getD [] ++ [spotOf b s.ps s.ps.length])) (put U o (t + 1))) ∨
    (t < ((at' S o).getD []).length ∧ grow s.ps (pick s.ps s.tk o) o = s.ps ∧ ((at' S o).getD [])[t]? = some (spotOf b s.ps (pick s.ps s.tk o)) ∧ Rel b (stepF b s (y,o)) S (put U o (t + 1)))) :=by
 refine hideG fun M kM=>?_
 obtain ⟨t,h1,h2,h3⟩ :=h.used o
 refine kM ?_
 clear kM
 refine ⟨t,h1,?_⟩
 have hlen : ((at' S o).getD []).length = (frees' s.ps [] o).length:=by rw [h.spots,List.length_map]
 rcases pick_cases s.ps s.tk o with ⟨e1,e2,e3⟩ | ⟨i,r,e1,e2,hi,hio,hit,e3⟩
 ·have ht : t = (frees' s.ps [] o).length:=by
   rw [h2] at e1
   have:=List.drop_eq_nil_iff.mp e1
   exact Nat.le_antisymm h3 this
  refine .inl ⟨ht.trans hlen.symm,e3,e2,?_⟩
  have es : stepF b s (y,o) = ⟨s.ps ++ [o],s.tk ++ [s.ps.length],s.rows ++ [(y,o,spotOf b (s.ps ++ [o]) s.ps.length)]⟩ :=by
   unfold stepF
   rw [e3,e2]
  have hnt : (intL s.tk).any (·== (s.ps.length : Int)) = false:=by
   rw [← Bool.not_eq_true]
   intro q
   obtain ⟨z,hz,e⟩ :=List.any_eq_true.mp q
   obtain ⟨j,hj,rfl⟩ :=List.mem_map.mp hz
   have:=h.old j hj
   have:=eq_of_beq e
   lia
  have hfo : ∀ o',frees' (s.ps ++ [o]) [] o' = frees' s.ps [] o' ++ (if (o == o') = true then [s.ps.length] else []) :=fun o'=>by
   rw [frees_grow,freeP_new]
   congr 1
   rw [show (!((intL []).any fun x=>x == (s.ps.length : Int))) = true from rfl,Bool.and_true]
  have hft : ∀ o',frees' (s.ps ++ [o]) (s.tk ++ [s.ps.length]) o' = frees' s.ps s.tk o':=fun o'=>by
   rw [frees_snoc,frees_grow,freeP_new,hnt,Bool.not_false,Bool.and_true,List.filter_append,filter_ne (fun q=>absurd (frees_mem q).1 (Nat.lt_irrefl _))]
   cases o == o'
   ·exact List.append_nil _
   ·rw [if_pos rfl,List.filter_cons,beq_self_eq_true,Bool.not_true,if_neg (by decide)]
    exact List.append_nil _
  rw [es]
  refine ⟨(put_nodup _ _ h.nS).1,(put_nodup _ _ h.nU).1,?_,?_,fun o'=>?_,fun o'=>?_,fun j hj=>?_⟩
  ·have:=(put_nodup o ((at' S o).getD [] ++ [spotOf b s.ps s.ps.length]) h.nS).2
   rw [List.length_append]
   exact Nat.le_trans this (Nat.add_le_add_right h.lS 1)
  ·rw [List.length_append]
   exact Nat.le_trans (put_nodup _ _ h.nU).2 (Nat.add_le_add_right h.lU 1)
  ·have hsp : (frees' s.ps [] o').map (spotOf b (s.ps ++ [o])) = (frees' s.ps [] o').map (spotOf b s.ps) :=List.map_congr_left fun j hj=>spotOf_snoc (Nat.le_of_lt (frees_mem hj).1)
   dsimp only
   rw [at_put,hfo,List.map_append,hsp]
   by_cases e : o = o'
   ·subst e
    rw [if_pos rfl,if_pos (beq_self_eq_true o),List.map_singleton,spotOf_snoc (Nat.le_refl _),← h.spots];rfl
   ·rw [if_neg e,if_neg (by rw [beq_iff_eq];exact e),List.map_nil,List.append_nil,h.spots]
  ·dsimp only
   rw [at_put,hft,hfo]
   by_cases e : o = o'
   ·subst e
    refine ⟨t + 1,?_,?_,?_⟩
    ·rw [if_pos rfl];rfl
    ·rw [e1,if_pos (beq_self_eq_true o)]
     symm
     rw [List.drop_eq_nil_iff,List.length_append,ht];exact Nat.le_refl _
    ·rw [if_pos (beq_self_eq_true o),List.length_append,ht];exact Nat.le_refl _
   ·obtain ⟨t',a1,a2,a3⟩ :=h.used o'
    rw [if_neg e,if_neg (by rw [beq_iff_eq];exact e),List.append_nil]
    exact ⟨t',a1,a2,a3⟩
  ·dsimp only at hj ⊢
   rw [List.length_append]
   rcases List.mem_append.mp hj with q | q
   ·exact Nat.lt_succ_of_lt (h.old j q)
   ·rw [List.mem_singleton.mp q];exact Nat.lt_succ_self _
 ·have hti : (frees' s.ps [] o)[t]? = some i:=by
   have:=congrArg (fun l=>l[0]?) (h2.symm.trans e1)
   rw [List.getElem?_drop] at this
   exact this
  have htl:=(List.getElem?_eq_some_iff.mp hti).1
  refine .inr ⟨hlen ▸ htl,e3,?_,?_⟩
  ·rw [h.spots,List.getElem?_map,hti,e2];rfl
  have es : stepF b s (y,o) = ⟨s.ps,s.tk ++ [i],s.rows ++ [(y,o,spotOf b s.ps i)]⟩ :=by
   unfold stepF
   rw [e3,e2]
  rw [es]
  refine ⟨h.nS,(put_nodup _ _ h.nU).1,h.lS,?_,h.spots,fun o'=>?_,fun j hj=>?_⟩
  ·rw [List.length_append]
   exact Nat.le_trans (put_nodup _ _ h.nU).2 (Nat.add_le_add_right h.lU 1)
  ·dsimp only
   rw [at_put,frees_snoc]
   by_cases e : o = o'
   ·subst e
    refine ⟨t + 1,by rw [if_pos rfl];rfl,?_,htl⟩
    have hd:=drop_cons hti
    have hn:=frees_nodup s.ps s.tk o
    rw [h2,hd] at hn ⊢
    rw [List.filter_cons,beq_self_eq_true,Bool.not_true,if_neg (by decide)]
    exact filter_ne (List.nodup_cons.mp hn).1
   ·obtain ⟨t',a1,a2,a3⟩ :=h.used o'
    rw [if_neg e]
    refine ⟨t',a1,?_,a3⟩
    rw [filter_ne fun q=>?_]
    ·exact a2
    ·have:=(frees_mem q).2.1
     rw [hio] at this
     exact e (Option.some.inj this)
  ·rcases List.mem_append.mp hj with q | q
   ·exact h.old j q
   ·rw [List.mem_singleton.mp q];exact hi
section
variable {G:Gl}{C:Cx}{lv:List (Option AVal)}{σ:Own}{x:Prop}{Q:AVal→Own→Prop}{Qn:List (Option AVal)→Own→Prop}{Qr:AVal→Own→Prop}
theorem capSet2 {l:List (Option AVal)}{i j:Nat}{v w:AVal}(h:l[i]?=some none)(h':l[j]?=some none): ∀(k:Nat) (u:AVal),l[k]?=some (some u)→((l.set i (some v)).set j (some w))[k]?=some (some u):=fun k u hu=>by
 by_cases e:j=k
 ·subst e;rw [h'] at hu;cases hu
 ·rw [List.getElem?_set_ne e];exact capSet h k u hu
theorem CTurn.pair {scope:Scope}{caps:List (Option Nat)}{elt:Expr}{ifs:List Expr}{Φ:Nat→List AVal→Own→Prop}{k:Nat}{v w:AVal}{out:List AVal}{y z:Str}{p q tp:Pos}{x1:Nat}{nk nk':NameKind}(i j:Nat)
  (hn: ∀cl Cc,(C.comp scope cl Cc).env.scope.names[i]?=some (y,nk)) (hk: ∀cl Cc,(C.comp scope cl Cc).env.kindOf y=some .local) (hc:caps[i]?=some none)
  (hn': ∀cl Cc,(C.comp scope cl Cc).env.scope.names[j]?=some (z,nk')) (hk': ∀cl Cc,(C.comp scope cl Cc).env.kindOf z=some .local) (hc':caps[j]?=some none)
  (h: ∀cl Cc,Tsts G (C.comp scope cl Cc) (((capLv lv caps).set i (some v)).set j (some w)) σ ifs (fun b σ'=>if b then Ev G (C.comp scope cl Cc) (((capLv lv caps).set i (some v)).set j (some w)) σ' elt (fun w σ''=>Φ (k+1) (out++ [w]) σ'') False else Φ (k+1) out σ') False)
  (hd:(y==("__debug__":Str))=false:=by decide) (hd':(z==("__debug__":Str))=false:=by decide) (hyz:y≠z:=by decide):CTurn G C lv scope caps (.Tuple [.Name y p,.Name z q] x1 tp) elt ifs Φ k (.tup [v,w]) out σ:=fun cl Cc h0 oC=>
 ⟨_,capSet2 (capLv_none hc) (capLv_none hc'),CTgt.pair oC h0 (hn cl Cc) (hk cl Cc) hd (hn' cl Cc) (hk' cl Cc) hd' hyz,h cl Cc⟩
set_option maxHeartbeats 4000000 in
theorem law_sum_spec (hG:G.frag=KF G.w.params)(hrk:1≤C.rk){y:Str}{d:List UInt8}(hd:d.length≤5000)(h:Q (.int (sumT (plainT y d))) σ):CallP G C lv σ (.ref 452) [.str y,.bytes d] Q x:=by
 have hpl:=plainT_length y d
 refine CallP.intro (ok_law_sum hG) rfl hrk (len2 fun _ _=>rfl) ?_
 intro g L'
 refine Ex.consM (fun lv σ'=>σ'=σ∧lv= [some (.str y),some (.bytes (plainT y d)),none,none,none,none]) ?_ ?_
 ·refine Ex.ite (Run.mono (Q:=fun b σ'=>σ'=σ∧b=adj y d) ?_ ?_ id)
  ·refine Tst.boolop (All.and (Tst.cmpN (i:=0) rfl rfl (Ev.str (Cmp.eqS ?_))))
   unfold adj
   cases y==("head":Str)
   ·rw [if_neg (by decide)];exact ⟨rfl,rfl⟩
   ·refine rwG (if_pos rfl ..) ?_
    refine All.and (Tst.cmp (Ev.callB (ns_len hG) rfl Keeps.builtin (Args'.name (i:=1) rfl rfl (Args'.nil (CallP.lenB (Ev.int (Cmp.ge ?_)) (Nat.le_trans hd (by decide)))))))
    refine rwG (show decide ((12:Int)≤(d.length:Int))=decide (12≤d.length) from decide_eq_decide.mpr (by lia)) ?_
    cases decide (12≤d.length)
    ·rw [if_neg (by decide)];exact ⟨rfl,rfl⟩
    ·rw [if_pos rfl];exact All.and_nil ⟨rfl,rfl⟩
  ·rintro b σ' ⟨rfl,rfl⟩
   unfold plainT
   cases adj y d
   ·refine rwG (if_neg (by decide) ..) ?_;refine rwG (if_neg (by decide) ..) ?_
    exact Ex.nil ⟨rfl,rfl⟩
   ·refine rwG (if_pos rfl ..) ?_;refine rwG (if_pos rfl ..) ?_
    have h1:=cut_length_le d none (some 8)
    have h2:=cut_length_le d (some 12) none
    refine Ex.cons (Ex.assign 1 rfl (.inr ⟨rfl,_,rfl,rfl⟩) (Ev.bin (Ev.bin (Ev.sliceB (Ev.name (i:=1) rfl rfl ⟨d,rfl,Nat.le_trans hd (by decide),EvP.none (EvP.int ?_)⟩)))))
    refine Ev.callB (ns_bytes hG) rfl Keeps.type (Args'.int (Args'.nil (CallP.bytesI (by decide) (by decide) (Bin.addB ?_ ?_))))
    ·refine Ev.sliceB (Ev.name (i:=1) rfl rfl ⟨d,rfl,Nat.le_trans hd (by decide),EvP.int (EvP.none (Bin.addB ?_ ?_))⟩)
     ·exact Ex.nil ⟨rfl,rfl⟩
     ·refine rwG (List.length_append ..) ?_;refine rwG (List.length_replicate ..) ?_
      show (cut d none (some 8)).length+4+_≤_
      lia
    ·refine rwG (List.length_replicate ..) ?_
     show (cut d none (some 8)).length+4≤_
     lia
 ·rintro lv σ' ⟨rfl,rfl⟩
  rw [sumT_eq] at h
  revert h hpl
  refine gen (plainT y d) ?_
  intro f hpl h
  have hf:f.length≤20000:=by lia
  refine Ex.cons (Ex.ret (Ev.bin (Ev.callB (ns_sum hG) rfl Keeps.builtin (Args'.cons ?_))))
  refine Ev.comp [none,none,some 1] ((List.range f.length).map fun i=> .int ((0:Int)+(i:Nat)*1)) (fun k out σ''=>σ''=σ'∧out=((List.range k).map (wordI f)).map .int) ?_ ?_ ?_ (by rw [List.length_map,List.length_range];exact Nat.le_trans hf (by decide))
  ·refine Ev.callB (ns_range hG) rfl Keeps.type (Args'.cons (Ev.callB (ns_len hG) rfl Keeps.builtin (Args'.name (i:=1) rfl rfl (Args'.nil (CallP.lenB (Args'.nil ?_) (Nat.le_trans hf (by decide)))))))
   exact CallP.range1 ⟨.rng _ _ _,rfl,rfl⟩ (by exact Int.neg_ofNat_le_natCast (2^60) f.length) (by lia)
  ·rintro k w out σ'' hk ⟨rfl,rfl⟩
   obtain ⟨k',hk',rfl⟩:=map_at hk
   have hkn:k<f.length:=by
    have:=(List.getElem?_eq_some_iff.mp hk').1
    rwa [List.length_range] at this
   rw [List.getElem?_range hkn] at hk'
   cases hk'
   refine rwG (show (0:Int)+(k:Nat)*1=(k:Int) by lia) ?_
   obtain ⟨c,hc⟩: ∃c,f[k]?=some c:=⟨f[k],List.getElem?_eq_getElem hkn⟩
   refine CTurn.name 1 (fun _ _=>rfl) (fun _ _=>rfl) rfl fun cl Cc=>Tsts.nil ?_
   show Ev _ _ _ _ _ _ _
   refine Ev.bin (Ev.subNN (i:=2) (j:=1) rfl rfl rfl rfl (Item.bytes ?_ (Nat.le_trans hf (by decide)) (Int.natCast_nonneg k) (by rw [Int.toNat_natCast];exact hc)))
   refine Ev.binI (Ev.binI (Ev.binNI (i:=1) rfl rfl (Bin.mod (Bin.sub (Bin.pow ?_ ?_ ?_)) (by decide))))
   ·have hcl:(c.toNat:Int)<2^64:=Int.ofNat_lt.mpr (Nat.lt_trans c.toNat_lt (by decide))
    refine Bin.mulL ⟨rfl,?_⟩ (Int.lt_of_lt_of_le (by decide) (Int.natCast_nonneg _)) hcl
    have e:(3 - Int.fmod (k:Int) 4).toNat=3 - k %4:=by rw [fmod_pos (by decide)];exact Int.toNat_sub 3 (k %4)
    refine rwG (e ..) ?_;refine rwG (List.range_succ ..) ?_;refine rwG (List.map_append ..) ?_;refine rwG (List.map_append ..) ?_
    unfold wordI
    rw [List.map_singleton,List.map_singleton,hc];rfl
   ·rw [fmod_pos (by decide)];lia
   ·have hi:=intBits_le_64 (k:=256) (by decide) (by decide)
    have h3:(3 - Int.fmod (k:Int) 4)≤3∧0≤(3 - Int.fmod (k:Int) 4):=by rw [fmod_pos (by decide)];lia
    have h2:(Builtin.Int.intBits 256:Int)≤64:=Int.ofNat_le.mpr hi
    exact Int.le_trans (Int.mul_le_mul h2 h3.1 h3.2 (by decide)) (by decide)
  ·rintro out σ'' ⟨rfl,rfl⟩
   refine rwG (List.length_map ..) ?_;refine rwG (List.length_range ..) ?_
   refine Args'.nil (CallP.sum (Ev.binI (Ev.int (Bin.pow (Bin.mod ?_ (by decide)) (by decide) ?_))))
   ·refine rwG (fmod_pos (by decide) ..) ?_
    exact h
   ·have hi:=intBits_le_64 (k:=2) (by decide) (by decide)
    have h2:(Builtin.Int.intBits 2:Int)≤64:=Int.ofNat_le.mpr hi
    exact Int.le_trans (Int.mul_le_mul_of_nonneg_right h2 (by decide)) (by decide)
end
theorem plan_hrow {b:Int}(hb:0≤b)(hb2:b≤4108){l:List Font}(hf: ∀f∈l,FontOk f)(hz:l.length≤64){k:Nat}{f:Font}(hk:l[k]?=some f):
  ∃rs:List Row,(plan b l).rows[k]?=some (f.1,rs)∧rs.map itemOf=items f∧ ∀r∈rs,RecOk (recOf r)∧r.1∈tags f∧r.2.1=tabGet f.2 r.1∧r.2.1.length≤1000:=by
 obtain ⟨rs,h1,h2⟩:=plan_row (b:=b) hk
 refine ⟨rs,h1,h2,row_ok (hf f (List.mem_of_getElem? hk)) hb hb2 h2 fun r hr=>?_⟩
 exact plan_bd (N:=192) l ⟨[],[]⟩ hf (fun p hp=>absurd hp List.not_mem_nil) (by show 0+_≤_;lia) (fun p hp=>absurd hp List.not_mem_nil) _ (List.mem_of_getElem? h1) r hr
theorem flat_len {l:List (List UInt8)}:l.flatten.length=(l.map List.length).sum:=List.length_flatten
theorem dirs_len {b:Int}(hb:0≤b)(hb2:b≤4108){l:List Font}(hf: ∀f∈l,FontOk f)(hz:l.length≤64):(dirsB (plan b l).rows).length=(l.map fun f=>12+16*f.2.length).sum:=by
 unfold dirsB
 refine rwG (flat_len ..) ?_;refine rwG (List.map_map ..) ?_
 congr 1
 have hrl:=plan_rows_len b l ⟨[],[]⟩
 change (plan b l).rows.length=0+l.length at hrl
 rw [Nat.zero_add] at hrl
 refine List.ext_getElem? fun k=>?_
 refine rwG (List.getElem?_map ..) ?_;refine rwG (List.getElem?_map ..) ?_
 cases e:l[k]? with
 |none=>rw [List.getElem?_eq_none (by rw [hrl];exact List.getElem?_eq_none_iff.mp e)];rfl
 |some f=>
  obtain ⟨rs,h1,h2,h3⟩:=plan_hrow hb hb2 hf hz e
  refine rwG (h1 ..) ?_
  show some (dirB (f.1,rs)).length=_
  rw [dirB_length fun r hr=>(h3 r hr).1,rs_len h2,(hf f (List.mem_of_getElem? e)).tagsLen];rfl
theorem sum_cast {α:Type}(g:α→Nat): ∀l:List α,(l.map fun a=>((g a:Nat):Int)).sum=(((l.map g).sum:Nat):Int)
 | []=>rfl
 |a::r=>by rw [List.map_cons,List.sum_cons,List.map_cons,List.sum_cons,sum_cast g r,Int.natCast_add]
theorem put_map {κ α β:Type} [DecidableEq κ] (g:α→β)(l:List (κ×α))(k:κ)(v:α):put (l.map fun p=>(p.1,g p.2)) k (g v)=(put l k v).map fun p=>(p.1,g p.2):=by
 have e:(l.map fun p=>(p.1,g p.2)).map (·.1)=l.map (·.1):=by rw [List.map_map];rfl
 by_cases h:k∈l.map (·.1)
 ·refine rwG (put_mem h ..) ?_;refine rwG (put_mem (by rw [e];exact h) ..) ?_;refine rwG (List.map_map ..) ?_;refine rwG (List.map_map ..) ?_
  refine List.map_congr_left fun p _=>?_
  show (if p.1=k then (p.1,g v) else (p.1,g p.2))=_
  by_cases q:p.1=k
  ·refine rwG (if_pos q ..) ?_
   show _=(((if p.1=k then (p.1,v) else p).1),g (if p.1=k then (p.1,v) else p).2)
   rw [if_pos q]
  ·refine rwG (if_neg q ..) ?_
   show _=(((if p.1=k then (p.1,v) else p).1),g (if p.1=k then (p.1,v) else p).2)
   rw [if_neg q]
 ·rw [put_snoc h,put_snoc (by rw [e];exact h),List.map_append];rfl
noncomputable abbrev spA (S:List (List UInt8×List Int)):List (List UInt8×AVal):=S.map fun p=>(p.1,AVal.lst (p.2.map .int))
noncomputable abbrev usA (U:List (List UInt8×Int)):List (List UInt8×AVal):=U.map fun p=>(p.1,AVal.int p.2)
theorem spA_nd {S:List (List UInt8×List Int)}(h:(S.map (·.1)).Nodup):((spA S).map (·.1)).Nodup:=by rw [List.map_map];exact h
theorem usA_nd {S:List (List UInt8×Int)}(h:(S.map (·.1)).Nodup):((usA S).map (·.1)).Nodup:=by rw [List.map_map];exact h
theorem body_leN {ps:List (List UInt8)}(h:Short ps):((ps.map fill).flatten).length≤ps.length*1003:=by
 refine Nat.le_trans (flat_le (n:=1003) fun p hp=>?_) (by rw [List.length_map];exact Nat.le_refl _)
 obtain ⟨q,hq,rfl⟩:=List.mem_map.mp hp
 exact fill_le (h q hq)
noncomputable def rowB (r:Row):List UInt8:=recB (recOf r)
theorem rowsB_len : ∀{rs:List Row},(∀r∈rs,IsTag r.1)→((rs.map rowB).flatten).length=16*rs.length
 | [],_=>rfl
 |r::rs,h=>by
  refine rwG (List.map_cons ..) ?_;refine rwG (List.flatten_cons ..) ?_;refine rwG (List.length_append ..) ?_;refine rwG (rowsB_len fun q hq=>h q (List.mem_cons_of_mem _ hq) ..) ?_;refine rwG (List.length_cons ..) ?_;refine rwG (Nat.mul_succ ..) ?_;refine rwG (Nat.add_comm ..) ?_
  congr 1
  exact recB_length (h r List.mem_cons_self)
theorem row_end (hd:List UInt8)(rs:List Row)(y:Str)(o:List UInt8)(p:Int):hd++((rs++ [(y,o,p)]).map rowB).flatten=hd++(rs.map rowB).flatten++tagB y++be (sumT (plainT y o)) 4++be p 4++be (o.length:Int) 4:=by
 refine rwG (List.map_append ..) ?_;refine rwG (List.flatten_append ..) ?_;refine rwG (List.map_singleton ..) ?_;refine rwG (List.flatten_singleton ..) ?_;refine rwG (List.append_assoc ..) ?_;refine rwG (List.append_assoc ..) ?_;refine rwG (List.append_assoc ..) ?_;refine rwG (List.append_assoc ..) ?_
 show _=_++(_++_)
 unfold rowB recB recOf
 rw [List.append_assoc,List.append_assoc]
noncomputable abbrev stepN (m:Nat):Int:=if m=1 then 0 else 1
theorem step_facts {m:Nat}(h1:1≤m)(h3:m≤3):([.int 0,.int 0,.int 1,.int 1]:List AVal)[m]?=some (.int (stepN m))∧(0≤stepN m∧stepN m≤1)∧(16:Int)*2^(stepN m).toNat=(if m=1 then 16 else 32):=by
 have:m=1∨m=2∨m=3:=or13 h1 h3
 rcases this with rfl|rfl|rfl<;>exact ⟨rfl,⟨by decide,by decide⟩,by decide⟩
noncomputable def lv23o (fs:List Font)(b:Int)(off dirs bod:List UInt8)(a8:Addr)(t:Nat→Option AVal):List (Option AVal):= [some (.lst (fs.map fontA)),some (.int ((12+4*fs.length:Nat):Int)),t 2,t 3,some (.int b),some (.bytes off),some (.bytes dirs),some (.bytes bod),some (.ref a8),t 9,t 10,t 11,t 12,t 13,t 14,none,none,none,none,none,none]
noncomputable def Ph23o (fs:List Font)(b:Int)(σ':Own)(a8:Addr)(k:Nat)(lv:List (Option AVal))(σ₁:Own):Prop:= ∃S,Rel b ⟨(plan b (fs.take k)).ps,[],[]⟩ S []∧At (lv23o fs b (headB fs.length++offB fs.length fs k) (dirsB (plan b (fs.take k)).rows) (((plan b (fs.take k)).ps.map fill).flatten) a8) (σ'++ [(a8,.dB (spA S))]) lv σ₁
noncomputable def lv23i (fs:List Font)(b:Int)(f:Font)(off dirs bod row:List UInt8)(a8 a9:Addr)(t:Nat→Option AVal):List (Option AVal):= [some (.lst (fs.map fontA)),some (.int ((12+4*fs.length:Nat):Int)),some (.int f.1),some (.dS (tabA f.2)),some (.int b),some (.bytes off),some (.bytes dirs),some (.bytes bod),some (.ref a8),some (.ref a9),some (.int (stepN f.2.length)),some (.bytes row),t 12,t 13,t 14,none,none,none,none,none,none]
noncomputable def Ph23i (fs:List Font)(b:Int)(f:Font)(off:List UInt8)(F:Ft)(σ':Own)(a8 a9:Addr)(j:Nat)(lv:List (Option AVal))(σ₂:Own):Prop:= ∃s S U,s=((items f).take j).foldl (stepF b) ⟨F.ps,[],[]⟩∧Rel b s S U∧At (lv23i fs b f off (dirsB F.rows) ((s.ps.map fill).flatten) (dirH f.1 f.2.length++(s.rows.map rowB).flatten) a8 a9) (σ'++ [(a8,.dB (spA S)),(a9,.dB (usA U))]) lv σ₂
noncomputable def lv23m (fs:List Font)(b:Int)(f:Font)(off dirs bod row:List UInt8)(a8 a9:Addr)(y:Str)(o:List UInt8)(t:Nat):List (Option AVal):= [some (.lst (fs.map fontA)),some (.int ((12+4*fs.length:Nat):Int)),some (.int f.1),some (.dS (tabA f.2)),some (.int b),some (.bytes off),some (.bytes dirs),some (.bytes bod),some (.ref a8),some (.ref a9),some (.int (stepN f.2.length)),some (.bytes row),some (.str y),some (.bytes o),some (.int t),none,none,none,none,none,none]
noncomputable def Ph23m (b:Int)(s:St)(U:List (List UInt8×Int))(y:Str)(o:List UInt8)(t:Nat)(σ':Own)(a8 a9:Addr)(L:List (Option AVal))(lv:List (Option AVal))(σ₂:Own):Prop:= ∃S,Rel b (stepF b s (y,o)) S (put U o ((t:Int)+1))∧((at' S o).getD [])[t]?=some (spotOf b (grow s.ps (pick s.ps s.tk o) o) (pick s.ps s.tk o))∧At (fun _=>L) (σ'++ [(a8,.dB (spA S)),(a9,.dB (usA (put U o ((t:Int)+1))))]) lv σ₂
theorem ttcf :be 1953784678 4= [116,116,99,102]:=by decide+kernel
section
variable {G:Gl}{C:Cx}{lv:List (Option AVal)}{σ:Own}{x:Prop}{Q:AVal→Own→Prop}{Qn:List (Option AVal)→Own→Prop}{Qr:AVal→Own→Prop}
theorem Ev.octets (hG:G.frag=KF G.w.params)(hrk:1≤C.rk){e:Expr}{k:Nat}{p1 p2 pos:Pos}{n:Nat}(hn:n=2∨n=4)(hk:C.env.kindOf "_law_octets"=some .globalImplicit)
  (he:starEach [e,.Constant (.int n) k p2] C.env=(false,eval e C.env)::starEach [.Constant (.int n) k p2] C.env)
  (hc:eval (.Call (.Name "_law_octets" p1) [e,.Constant (.int n) k p2] [] pos) C.env=(do callWith pos (←eval (.Name "_law_octets" p1) C.env) [] (backTo pos (starEach [e,.Constant (.int n) k p2] C.env)) (backToKw pos (keywordEach [] C.env))))
  (hp:(backTo pos (starEach [e,.Constant (.int n) k p2] C.env)).all (fun x=>!x.1)=true)
  (h:Ev G C lv σ e (fun v σ₁=> ∃i,v= .int i∧Q (.bytes (be i n)) σ₁) x):Ev G C lv σ (.Call (.Name "_law_octets" p1) [e,.Constant (.int n) k p2] [] pos) Q x:=by
 refine Ev.call (Ev.glob (hk:=hk) (ns_law_octets hG) ⟨_,rfl,Keeps.fk hG rfl,Args'.cons (Run.mono h (fun v σ₁ q=>?_) id) he⟩) hc hp
 obtain ⟨i,rfl,q⟩:=q
 exact Args'.int (Args'.nil (law_octets_spec hG hrk hn q))
set_option maxHeartbeats 8000000 in
theorem law_whole_spec (hG:G.frag=KF G.w.params)(hrk:2≤C.rk){fs:List Font}(hf: ∀f∈fs,FontOk f)(hz:fs.length≤64)(h:Q (.bytes (writeB fs)) σ):
  CallP G C lv σ (.ref 457) [.lst (fs.map fontA)] Q x:=by
 have hl:(fs.map fontA).length=fs.length:=List.length_map ..
 have hlen:fs.length≤1099511627776:=Nat.le_trans hz (by decide)
 have hr1:1≤C.rk - 1:=rk_le hrk
 refine CallP.forget σ.length ?_
 refine CallP.intro (ok_law_whole hG) rfl (Nat.le_trans (by decide) hrk) (len1 fun _=>rfl) ?_
 intro g L'
 refine Ex.cons (Ex.assignL 1 rfl (Ev.binI (Ev.binI (Ev.callB (ns_len hG) rfl Keeps.builtin (Args'.name (i:=0) rfl rfl (Args'.nil (CallP.lenL (Bin.mulL (Bin.add ?_) (by decide) (by decide)) (by rw [hl];exact hlen))))))))
 refine rwG (hl ..) ?_;refine rwG (show (12:Int)+4*(fs.length:Int)=((12+4*fs.length:Nat):Int) by exact Int.mem_toNat?.mp rfl) ?_
 refine Ex.cons (Ex.assignL 4 rfl (Ev.binN (i:=1) rfl rfl (Ev.callB (ns_sum hG) rfl Keeps.builtin (Args'.cons ?_))))
 refine Ev.comp [none,none,none,none] (fs.map fontA) (fun k out σ'=>σ'=σ∧out=((fs.take k).map fun f=>((12+16*f.2.length:Nat):Int)).map .int) (Ev.name (i:=0) rfl rfl ⟨.lst _,rfl,rfl⟩) ?_ ?_ (by rw [hl];exact Nat.le_trans hz (by decide))
 ·rintro k w out σ' hk ⟨rfl,rfl⟩
  obtain ⟨f,hfk,rfl⟩:=map_at hk
  have Fo:=hf f (List.mem_of_getElem? hfk)
  refine CTurn.pair 1 2 (fun _ _=>rfl) (fun _ _=>rfl) rfl (fun _ _=>rfl) (fun _ _=>rfl) rfl fun cl Cc=>Tsts.nil ?_
  show Ev _ _ _ _ _ _ _
  refine Ev.binI (Ev.binI (Ev.call (Ev.built (hk:=comp_kind rfl rfl) (ns_len hG) rfl ⟨_,rfl,Keeps.builtin,Args'.name (i:=2) rfl rfl (Args'.nil (CallP.lenD (by rw [tab_keys];exact Fo.row.nodup) (Bin.mulL (Bin.add ⟨rfl,?_⟩) (by decide) (by decide)) ?_))⟩)))
  ·refine rwG (List.take_add_one ..) ?_;refine rwG (hfk ..) ?_;refine rwG (Option.toList_some ..) ?_;refine rwG (List.map_append ..) ?_;refine rwG (List.map_append ..) ?_;refine rwG (List.length_map ..) ?_
   congr 1
  ·rw [List.length_map];exact Nat.le_trans Fo.few.2 (by decide)
 ·rintro out σ' ⟨rfl,rfl⟩
  refine rwG (hl ..) ?_;refine rwG (List.take_length ..) ?_
  refine Args'.nil (CallP.sum (Bin.add ?_))
  refine rwG (sum_cast (fun f:Font=>12+16*f.2.length) ..) ?_
  have eb:((12+4*fs.length:Nat):Int)+((((fs.map fun f=>12+16*f.2.length).sum:Nat)):Int)=((dirAt fs.length fs fs.length:Nat):Int):=by
   unfold dirAt
   rw [List.take_length];exact Int.ofNat_add_ofNat (12+4*fs.length) (List.map (fun f=>12+16*f.snd.length) fs).sum
  refine rwG (eb ..) ?_
  have hb0:(0:Int)≤((dirAt fs.length fs fs.length:Nat):Int):=Int.natCast_nonneg _
  have hb1:((dirAt fs.length fs fs.length:Nat):Int)≤4108:=Int.ofNat_le.mpr (dirAt_le hf hz hz _)
  unfold writeB planOf at h
  revert h hb0 hb1
  refine gen (((dirAt fs.length fs fs.length:Nat):Int)) ?_
  intro b h hb0 hb1
  refine Ex.cons (Ex.assignT (Ev.tuple (Args'.cons (Ev.bin (Ev.bin (Ev.bytes (Ev.octets hG hr1 (n:=4) (.inr rfl) rfl rfl rfl rfl (Ev.int ⟨_,rfl,Bin.addB ?_ ?_⟩))))))))
  ·refine Ev.octets hG hr1 (n:=4) (.inr rfl) rfl rfl rfl rfl (Ev.callB (ns_len hG) rfl Keeps.builtin (Args'.name (i:=0) rfl rfl (Args'.nil (CallP.lenL ⟨_,rfl,Bin.addB ?_ ?_⟩ (by rw [hl];exact hlen)))))
   ·rw [hl,←ttcf]
    refine Args'.cons (Ev.bytes (Args'.cons (Ev.bytes (Args'.cons (Ev.dictB fun a8=>Args'.nil ⟨Nat.le_of_ble_eq_true rfl,?_⟩)))))
    refine Sto.tuple rfl (Stos.name 5 rfl (Stos.name 6 rfl (Stos.name 7 rfl (Stos.name 8 rfl (Stos.nil ?_)))))
    refine Ex.cons (Ex.for (fs.map fontA) (Ph23o fs b σ' a8) ?_ ?_ ?_)
    ·refine Ev.name (i:=0) rfl rfl ⟨.lst _,[],Rel.init b,?_,rfl⟩
     show _= [_,_,_,_,_,some (AVal.bytes (headB fs.length++ [])),_,_,_,_,_,_,_,_,_,_,_,_,_,_,_]
     rw [List.append_nil];rfl
    ·rintro k w lv σ₁ hk ⟨S,hR,e⟩
     refine stE e fun t=>?_
     obtain ⟨f,hfk,rfl⟩:=map_at hk
     have Fo:=hf f (List.mem_of_getElem? hfk)
     have hkn:k<fs.length:=(List.getElem?_eq_some_iff.mp hfk).1
     have ep:plan b (fs.take (k+1))=stepG b (plan b (fs.take k)) f:=by
      unfold plan
      rw [List.take_add_one,hfk,Option.toList_some,List.foldl_append];rfl
     have hft: ∀f∈fs.take k,FontOk f:=fun f hm=>hf f (List.mem_of_mem_take hm)
     have htl:(fs.take k).length≤64:=by rw [List.length_take];lia
     have hps:(plan b (fs.take k)).ps.length≤192:=by
      have:=plan_ps_len b (fs.take k) ⟨[],[]⟩
      exact Nat.le_trans this (by show 0+3*_≤_;lia)
     have hsh:Short (plan b (fs.take k)).ps:=plan_short b (fs.take k) ⟨[],[]⟩ hft (fun p hp=>absurd hp List.not_mem_nil)
     have hdl:=dirs_len hb0 hb1 hft htl
     have hda:dirAt fs.length fs k=12+4*fs.length+(dirsB (plan b (fs.take k)).rows).length:=by rw [hdl];rfl
     have hdle:=dirAt_le (n:=fs.length) hf hz hz k
     have few:=Fo.few
     revert hps hsh hda hR ep
     refine gen (plan b (fs.take k)) ?_
     intro F hR ep hps hsh hda
     refine Sto.tuple rfl (Stos.name 2 rfl (Stos.name 3 rfl (Stos.nil ?_)))
     refine Ex.forget (σ'.length+1) ?_
     refine Ex.cons (Ex.assignSwap ["head","used"] (Ev.tuple (Args'.cons (Ev.binN (i:=5) rfl rfl ?_))))
     refine Ev.octets hG hr1 (n:=4) (.inr rfl) rfl rfl rfl rfl (Ev.binN (i:=1) rfl rfl (Ev.callB (ns_len hG) rfl Keeps.builtin (Args'.name (i:=6) rfl rfl (Args'.nil (CallP.lenB (Bin.add ⟨_,rfl,Bin.addB ?_ ?_⟩) (by lia))))))
     ·have e:((12+4*fs.length:Nat):Int)+((dirsB F.rows).length:Int)=((dirAt fs.length fs k:Nat):Int):=by exact Eq.symm ((fun {a b}=>Int.neg_inj.mp) (congrArg Neg.neg (congrArg Nat.cast hda)))
      rw [e,List.append_assoc,←offB_succ]
      refine Args'.cons (Ev.dictB fun a9=>Args'.nil ⟨Nat.le_of_ble_eq_true rfl,_,rfl,rfl,?_⟩)
      refine StosB.cons 9 rfl (.inl ⟨rfl,rfl⟩) (StosB.cons 5 rfl (.inl ⟨rfl,rfl⟩) (StosB.nil ?_))
      rw [List.append_assoc]
      obtain ⟨sf1,sf2,sf3⟩:=step_facts few.1 few.2
      have hndk:((tabA f.2).map (·.1)).Nodup:=by rw [tab_keys];exact Fo.row.nodup
      have hml:f.2.length≤1099511627776:=Nat.le_trans few.2 (by decide)
      have htm:(tabA f.2).length=f.2.length:=List.length_map ..
      refine Ex.cons (Ex.assignL 10 rfl (Ev.sub (Ev.list (Args'.int (Args'.int (Args'.int (Args'.int (Args'.nil ⟨Nat.le_of_ble_eq_true rfl,?_⟩))))))))
      refine Ev.callB (ns_len hG) rfl Keeps.builtin (Args'.name (i:=3) rfl rfl (Args'.nil (CallP.lenD hndk (Item.list (v:= .int (stepN f.2.length)) ?_ (Int.natCast_nonneg _) ?_ ?_) ?_)))
      ·have hpw: ∀(Q':AVal→Own→Prop) τ p1 p2 p3 p4 p5 k1 k2,Q' (.int (if f.2.length=1 then 16 else 32)) τ→ ∀(C':Cx) (lv':List (Option AVal)),C'.env.scope.names[10]?=some (("steps":Str),NameKind.local)→lv'[10]?=some (some (.int (stepN f.2.length)))→Ev G C' lv' τ (.BinOp (.Constant (.int 16) k1 p1) .Mult (.BinOp (.Constant (.int 2) k2 p2) .Pow (.Name "steps" p3) p4) p5) Q' x:=by
        intro Q' τ p1 p2 p3 p4 p5 k1 k2 q C' lv' hn hv
        refine Ev.binI (Ev.binI (Ev.name (i:=10) hn hv (Bin.pow (Bin.mulL ?_ (by decide) (by decide)) sf2.1 ?_)))
        ·rw [sf3];exact q
        ·have hi:=intBits_le_64 (k:=2) (by decide) (by decide)
         have h2:(Builtin.Int.intBits 2:Int)≤64:=Int.ofNat_le.mpr hi
         exact Int.le_trans (Int.mul_le_mul h2 sf2.2 sf2.1 (by decide)) (by decide)
       refine Ex.cons (Ex.assignL 11 rfl (Ev.bin (Ev.bin (Ev.bin (Ev.octets hG hr1 (n:=4) (.inr rfl) rfl rfl rfl rfl (Ev.name (i:=2) rfl rfl ⟨_,rfl,?_⟩))))))
       refine Ev.octets hG hr1 (n:=2) (.inl rfl) rfl rfl rfl rfl (Ev.callB (ns_len hG) rfl Keeps.builtin (Args'.name (i:=3) rfl rfl (Args'.nil (CallP.lenD hndk ⟨_,rfl,Bin.addB ?_ (by simp [be_length])⟩ (by rw [htm];exact hml)))))
       refine Ev.octets hG hr1 (n:=2) (.inl rfl) rfl rfl rfl rfl (hpw _ _ _ _ _ _ _ _ _ ⟨_,rfl,Bin.addB ?_ (by simp [be_length])⟩ _ _ rfl rfl)
       refine Ev.octets hG hr1 (n:=2) (.inl rfl) rfl rfl rfl rfl (Ev.name (i:=10) rfl rfl ⟨_,rfl,Bin.addB ?_ (by simp [be_length])⟩)
       refine Ex.cons (Ex.assignL 11 rfl (Ev.binN (i:=11) rfl rfl (Ev.octets hG hr1 (n:=2) (.inl rfl) rfl rfl rfl rfl (Ev.bin (Ev.binI (Ev.callB (ns_len hG) rfl Keeps.builtin (Args'.name (i:=3) rfl rfl (Args'.nil (CallP.lenD hndk (Bin.mulL (hpw _ _ _ _ _ _ _ _ _ (Bin.sub ⟨_,rfl,Bin.addB ?_ (by simp [be_length])⟩) _ _ rfl rfl) (by decide) (by decide)) (by rw [htm];exact hml))))))))))
       rw [htm]
       have eH:be f.1 4++be (f.2.length:Int) 2++be (if f.2.length=1 then 16 else 32) 2++be (stepN f.2.length) 2++be (16*(f.2.length:Int) - (if f.2.length=1 then 16 else 32)) 2=dirH f.1 f.2.length:=by
        unfold dirH srch stepN
        rw [List.append_assoc,List.append_assoc,List.append_assoc]
        rw [List.append_assoc,List.append_assoc]
       rw [eH]
       clear eH hpw
       refine Ex.cons (Ex.for ((tags f).map .str) (Ph23i fs b f (headB fs.length++offB fs.length fs (k+1)) F σ' a8 a9) ?_ ?_ ?_)
       ·refine Ev.callB (ns_sorted hG) rfl Keeps.builtin (Args'.name (i:=3) rfl rfl (Args'.nil (CallP.sortedD (by rw [tab_keys];exact Fo.row) ?_)))
        rw [tab_keys]
        refine ⟨.lst _,_,S,[],rfl,hR.fresh [],?_,rfl⟩
        show _= [_,_,_,_,_,_,_,_,_,_,_,some (AVal.bytes (dirH f.1 f.2.length++ [])),_,_,_,_,_,_,_,_,_]
        rw [List.append_nil];rfl
       ·rintro j w lv σ₂ hj ⟨s,S',U,hs,hR',e⟩
        refine stE e fun t1=>?_
        obtain ⟨y,hy,rfl⟩:=map_at hj
        have hym:=List.mem_of_getElem? hy
        have hit:(items f)[j]?=some (y,tabGet f.2 y):=by
         unfold items
         rw [List.getElem?_map,hy];rfl
        have es:((items f).take (j+1)).foldl (stepF b) ⟨F.ps,[],[]⟩=stepF b s (y,tabGet f.2 y):=by
         rw [List.take_add_one,hit,Option.toList_some,List.foldl_append,←hs];rfl
        have hsl:s.ps.length≤195∧s.rows.length≤3∧s.tk.length≤3:=by
         have h1:=foldl_ps_len b ((items f).take j) ⟨F.ps,[],[]⟩
         have h2:=tags_le f
         have h3:=tk_foldl b ((items f).take j) ⟨F.ps,[],[]⟩
         have h4:=congrArg List.length (rows_foldl b ((items f).take j) ⟨F.ps,[],[]⟩)
         rw [←hs,List.length_take,items_length] at h1 h3
         rw [←hs,List.length_map,List.length_append,List.length_take,items_length] at h4
         change s.ps.length≤F.ps.length+_ at h1
         change s.tk.length=0+_ at h3
         change s.rows.length=0+_ at h4
         have hm:min j (tags f).length≤3:=Nat.le_trans (Nat.min_le_right _ _) h2
         exact ⟨Nat.le_trans h1 (Nat.add_le_add hps hm),by rw [h4,Nat.zero_add];exact hm,by rw [h3,Nat.zero_add];exact hm⟩
        have htg: ∀r∈s.rows,IsTag r.1:=by
         intro r hr
         have h1:=rows_foldl b ((items f).take j) ⟨F.ps,[],[]⟩
         rw [←hs] at h1
         change s.rows.map itemOf= []++_ at h1
         rw [List.nil_append] at h1
         have h2:itemOf r∈(items f).take j:=by rw [←h1];exact List.mem_map_of_mem hr
         have h3:=List.mem_map_of_mem (f:=(·.1)) (List.mem_of_mem_take h2)
         rw [items_fst] at h3
         exact tags_isTag h3
        have hss:Short s.ps:=by
         refine rwG (hs ..) ?_
         exact foldl_short b _ ⟨F.ps,[],[]⟩ (fun p hp=>items_short Fo p (List.mem_of_mem_take hp)) hsh
        have hbl:=body_leN hss
        have hrl:=rowsB_len htg
        have hlen:=Fo.len hym
        have hget:at' (tabA f.2) y=some (.bytes (tabGet f.2 y)):=at_tab (tabGet_at (tags_mem hym))
        have hyt:=tags_isTag hym
        revert hlen hget es
        refine gen (tabGet f.2 y) ?_
        intro o es hlen hget
        obtain ⟨t,ht,hcase⟩:=hR'.step y o
        refine Sto.nameL 12 rfl ?_
        refine Ex.cons (Ex.assignL 13 rfl (Ev.subNN (i:=3) (j:=12) rfl rfl rfl rfl (Item.dS ?_ hndk hget)))
        refine Ex.cons (Ex.assignL 14 rfl (Ev.methN (.builtin "dict.get") (i:=9) rfl rfl (Meth.getB (gx (i:=1) rfl)) (Keeps.builtin) (Args'.name (i:=13) rfl rfl (Args'.int (Args'.nil (CallP.getB (gx (i:=1) rfl) (usA_nd hR'.nU) ?_))))))
        have eget:(at' (usA U) o).getD (.int 0)= .int t:=by
         rw [at_map,Option.getD_map,ht]
        have espot: ∀S:List (List UInt8×List Int),(at' (spA S) o).getD (.lst [])= .lst (((at' S o).getD []).map .int):=fun S=>by
         refine rwG (at_map (fun v:List Int=>AVal.lst (v.map .int)) ..) ?_
         exact Option.getD_map (fun v:List Int=>AVal.lst (v.map .int)) [] (at' S o)
        refine rwG (eget ..) ?_
        refine Ex.cons (Ex.setItem (Ev.binNI (i:=14) rfl rfl (Bin.add (Ev.name (i:=9) rfl rfl (Ev.name (i:=13) rfl rfl (SetI.dB (gx (i:=1) rfl) (usA_nd hR'.nU) (by rw [List.length_map];exact Nat.le_trans hR'.lU (Nat.le_trans hsl.2.2 (by decide))) ?_))))))
        refine rwG (sx ..) ?_;refine rwG (put_map AVal.int ..) ?_
        refine Ex.consM (Ph23m b s U y o t σ' a8 a9 (lv23m fs b f (headB fs.length++offB fs.length fs (k+1)) (dirsB F.rows) (((grow s.ps (pick s.ps s.tk o) o).map fill).flatten) (dirH f.1 f.2.length++(s.rows.map rowB).flatten) a8 a9 y o t)) ?_ ?_
        ·have hspl:((at' S' o).getD []).length≤195:=by
          refine rwG (hR'.spots ..) ?_;refine rwG (List.length_map ..) ?_
          unfold frees'
          exact Nat.le_trans (List.length_filter_le _ _) (by rw [List.length_range];exact hsl.1)
         refine Ex.ite (Tst.cmpN (i:=14) rfl rfl (Ev.callB (ns_len hG) rfl Keeps.builtin (Args'.cons ?_)))
         refine Ev.methN (.builtin "dict.get") (i:=8) rfl rfl (Meth.getB (gx (i:=0) rfl)) (Keeps.builtin) (Args'.name (i:=13) rfl rfl (Args'.cons (Ev.list (Args'.nil ⟨Nat.le_of_ble_eq_true rfl,Args'.nil (CallP.getB (gx (i:=0) rfl) (spA_nd hR'.nS) ?_)⟩))))
         refine rwG (espot ..) ?_
         refine Args'.nil (CallP.lenL (Cmp.eq ?_) (by rw [List.length_map];exact Nat.le_trans hspl (by decide)))
         refine rwG (List.length_map ..) ?_
         rcases hcase with ⟨c1,c2,c3,c4⟩|⟨c1,c2,c3,c4⟩
         ·refine rwG (if_pos (by rw [beq_iff_eq,c1]) ..) ?_
          refine Ex.cons (Ex.setItem (Ev.bin (Ev.methN (.builtin "dict.get") (i:=8) rfl rfl (Meth.getB (gx (i:=0) rfl)) (Keeps.builtin) (Args'.name (i:=13) rfl rfl (Args'.cons (Ev.list (Args'.nil ⟨Nat.le_of_ble_eq_true rfl,Args'.nil (CallP.getB (gx (i:=0) rfl) (spA_nd hR'.nS) ?_)⟩)))))))
          refine rwG (espot ..) ?_
          refine Ev.list (Args'.cons (Ev.binN (i:=4) rfl rfl (Ev.callB (ns_len hG) rfl Keeps.builtin (Args'.name (i:=7) rfl rfl (Args'.nil (CallP.lenB (Bin.add (Args'.nil ⟨Nat.le_of_ble_eq_true rfl,Bin.addL ?_ ?_⟩)) ?_))))))
          ·refine rwG (List.length_map ..) ?_
           exact Nat.le_trans (Nat.add_le_add_right hspl 1) (by decide)
          ·refine Ev.name (i:=8) rfl rfl (Ev.name (i:=13) rfl rfl (SetI.dB (gx (i:=0) rfl) (spA_nd hR'.nS) (by rw [List.length_map];exact Nat.le_trans hR'.lS (Nat.le_trans hsl.1 (by decide))) ?_))
           have e1:((at' S' o).getD []).map AVal.int++ [AVal.int (b+(((s.ps.map fill).flatten.length:Nat):Int))]=((at' S' o).getD []++ [spotOf b s.ps s.ps.length]).map AVal.int:=by
            unfold spotOf
            rw [List.take_length,List.map_append];rfl
           refine rwG (e1 ..) ?_;refine rwG (sx ..) ?_;refine rwG (put_map (fun v:List Int=>AVal.lst (v.map .int)) ..) ?_
           refine Ex.cons (Ex.assignL 7 rfl (Ev.bin (Ev.binNN (i:=7) (j:=13) rfl rfl rfl rfl (Bin.addB ?_ ?_))))
           ·refine Ev.callB (ns_bytes hG) rfl Keeps.type (Args'.cons (Ev.bin (Ev.binI (Ev.bin (Ev.callB (ns_len hG) rfl Keeps.builtin (Args'.name (i:=13) rfl rfl (Args'.nil (CallP.lenB (Ev.int (Bin.mod (Bin.sub (Ev.int (Bin.mod (Args'.nil ?_) (by decide)))) (by decide))) (Nat.le_trans hlen (by decide))))))))))
            have ef:Int.fmod (4 - Int.fmod (o.length:Int) 4) 4=(((4 - o.length %4) %4:Nat):Int):=by
             rw [fmod_pos (by decide),fmod_pos (by decide)];lia
            refine rwG (ef ..) ?_
            refine CallP.bytesI (by exact Int.natCast_nonneg ((4 - o.length %4) %4)) (by lia) (Bin.addB ?_ ?_)
            ·refine rwG (Int.toNat_natCast ..) ?_
             refine Ex.nil ⟨_,c4,?_,?_,rfl⟩
             ·rw [c2,c3,at_put,if_pos rfl,Option.getD_some,c1,List.getElem?_append_right (Nat.le_refl _),Nat.sub_self,spotOf_snoc (Nat.le_refl _)];rfl
             ·refine rwG (c2 ..) ?_;refine rwG (List.map_append ..) ?_;refine rwG (List.flatten_append ..) ?_;refine rwG (List.map_singleton ..) ?_;refine rwG (List.flatten_singleton ..) ?_
              unfold fill
              rw [List.append_assoc];rfl
            ·rw [List.length_append,List.length_replicate,Int.toNat_natCast];lia
           ·lia
          ·lia
         ·refine rwG (if_neg (by rw [beq_iff_eq];lia) ..) ?_
          exact Ex.nil ⟨S',c4,by rw [c2];exact c3,by rw [c2];rfl,rfl⟩
        ·rintro lv σ₂ ⟨S'',r1,r2,e⟩
         refine stE e fun _=>?_
         obtain ⟨sp,hsp,hspt⟩: ∃sp,at' S'' o=some sp∧sp[t]?=some (spotOf b (grow s.ps (pick s.ps s.tk o) o) (pick s.ps s.tk o)):=by
          cases e:at' S'' o with
          |none=>rw [e] at r2;cases r2
          |some sp=>rw [e] at r2;exact ⟨sp,rfl,r2⟩
         have htl:=tagB_length hyt
         have hsz:(dirH f.1 f.2.length++(s.rows.map rowB).flatten).length≤60:=by
          rw [List.length_append,dirH_length,hrl];lia
         have htf:sp.length<2^63→(t:Int)<2^63:=fun q=>by
          have:=(List.getElem?_eq_some_iff.mp hspt).1
          lia
         have hes:stepF b s (y,o)=⟨grow s.ps (pick s.ps s.tk o) o,s.tk++ [pick s.ps s.tk o],s.rows++ [(y,o,spotOf b (grow s.ps (pick s.ps s.tk o) o) (pick s.ps s.tk o))]⟩:=rfl
         have htn:(t:Int)<2^63:=by
          have h1:=(List.getElem?_eq_some_iff.mp hspt).1
          have h2:=r1.spots o
          rw [hsp,Option.getD_some] at h2
          have h3:=congrArg List.length h2
          rw [List.length_map] at h3
          have h4:(frees' (stepF b s (y,o)).ps [] o).length≤196:=by
           unfold frees'
           refine Nat.le_trans (List.length_filter_le _ _) ?_
           refine rwG (List.length_range ..) ?_
           exact Nat.le_trans (grow_len _ _ _) (by lia)
          lia
         refine Ex.cons (Ex.assignL 11 rfl (Ev.bin (Ev.bin (Ev.bin (Ev.binN (i:=11) rfl rfl ?_)))))
         refine Ev.methN (.builtin "str.encode") (i:=12) rfl rfl (Meth.encode) (Keeps.builtin) (Args'.cons (Ev.str (Args'.nil (CallP.encode hyt (Bin.addB ?_ (by rw [htl];lia))))))
         refine Ev.octets hG hr1 (n:=4) (.inr rfl) rfl rfl rfl rfl (Ev.callG (ns_law_sum hG) (.fk hG rfl) (Args'.name (i:=12) rfl rfl (Args'.name (i:=13) rfl rfl (Args'.nil ?_))))
         refine law_sum_spec hG hr1 (Nat.le_trans hlen (by decide)) ⟨_,rfl,Bin.addB ?_ (by rw [List.length_append,htl,be_length];lia)⟩
         refine Ev.octets hG hr1 (n:=4) (.inr rfl) rfl rfl rfl rfl (Ev.sub (Ev.subNN (i:=8) (j:=13) rfl rfl rfl rfl (Item.ownB (v:= .lst (sp.map .int)) (gx (i:=0) rfl) ?_ (spA_nd r1.nS) ?_)))
         ·refine Ev.name (i:=14) rfl rfl (Item.list (v:= .int (spotOf b (grow s.ps (pick s.ps s.tk o) o) (pick s.ps s.tk o))) ⟨_,rfl,Bin.addB ?_ (by rw [List.length_append,List.length_append,htl,be_length,be_length];lia)⟩ (Int.natCast_nonneg t) htn (by rw [Int.toNat_natCast,List.getElem?_map,hspt];rfl))
          refine Ev.octets hG hr1 (n:=4) (.inr rfl) rfl rfl rfl rfl (Ev.callB (ns_len hG) rfl Keeps.builtin (Args'.name (i:=13) rfl rfl (Args'.nil (CallP.lenB ⟨_,rfl,Bin.addB ?_ (by rw [List.length_append,List.length_append,List.length_append,htl,be_length,be_length,be_length];lia)⟩ (Nat.le_trans hlen (by decide))))))
          refine Ex.nil ⟨_,S'',_,es.symm,r1,?_,rfl⟩
          refine rwG (hes ..) ?_
          have er:=row_end (dirH f.1 f.2.length) s.rows y o (spotOf b (grow s.ps (pick s.ps s.tk o) o) (pick s.ps s.tk o))
          refine rwG (er ..) ?_
          rfl
         ·rw [at_map (fun v:List Int=>AVal.lst (v.map .int)),hsp];rfl
       ·rintro lv σ₂ ⟨s,S',U,hs,hR',e⟩
        refine stE e fun t1=>?_
        rw [List.length_map,←items_length,List.take_length] at hs
        have eG:stepG b F f=⟨s.ps,F.rows++ [(f.1,s.rows)]⟩:=by rw [hs];rfl
        have h1:=rows_foldl b (items f) ⟨F.ps,[],[]⟩
        rw [←hs] at h1
        have hrn:s.rows.length=f.2.length:=(rs_len h1).trans Fo.tagsLen
        have eD:dirsB (F.rows++ [(f.1,s.rows)])=dirsB F.rows++(dirH f.1 f.2.length++(s.rows.map rowB).flatten):=by
         unfold dirsB
         refine rwG (List.map_append ..) ?_;refine rwG (List.flatten_append ..) ?_;refine rwG (List.map_singleton ..) ?_;refine rwG (List.flatten_singleton ..) ?_
         unfold dirB dirR
         rw [List.length_map,hrn,List.map_map];rfl
        have htg: ∀r∈s.rows,IsTag r.1:=by
         intro r hr
         have h2:itemOf r∈items f:=by rw [←show s.rows.map itemOf=items f from h1];exact List.mem_map_of_mem hr
         have h3:=List.mem_map_of_mem (f:=(·.1)) h2
         rw [items_fst] at h3
         exact tags_isTag h3
        have hrl:=rowsB_len htg
        rw [eG] at ep
        refine Ex.cons (Ex.assignL 6 rfl (Ev.binNN (i:=6) (j:=11) rfl rfl rfl rfl (Bin.addB ?_ (by rw [List.length_append,dirH_length,hrl];lia))))
        refine Ex.nil ⟨S',by rw [ep];exact hR'.fresh [],by rw [ep,eD];rfl,?_⟩
        rw [tx];rfl
      ·rw [htm];lia
      ·rw [htm];exact sf1
      ·rw [htm];exact hml
     ·rw [List.length_append,headB_length,offB_length,be_length];lia
    ·rintro lv σ₁ ⟨S,hR,e⟩
     refine stE e fun t=>?_
     refine rwG (hl ..) ?_;refine rwG (List.take_length ..) ?_
     have hdl:=dirs_len hb0 hb1 hf hz
     have hps:=plan_ps_len b fs ⟨[],[]⟩
     have hsh:=plan_short b fs ⟨[],[]⟩ hf (fun p hp=>absurd hp List.not_mem_nil)
     have hda:=dirAt_le (n:=fs.length) hf hz hz fs.length
     unfold dirAt at hda
     rw [List.take_length] at hda
     change (plan b fs).ps.length≤0+3*fs.length at hps
     change Short (plan b fs).ps at hsh
     have hbl:=body_leN hsh
     revert h hdl hps hbl
     refine gen (plan b fs) ?_
     intro F h hdl hps hbl
     refine Ex.cons (Ex.ret (Ev.bin (Ev.binNN (i:=5) (j:=6) rfl rfl rfl rfl (Bin.addB ?_ ?_))))
     ·refine Ev.name (i:=7) rfl rfl (Bin.addB ?_ ?_)
      ·rw [List.take_left' rfl];exact h
      ·rw [List.length_append,List.length_append,headB_length,offB_length,hdl];lia
     ·rw [List.length_append,headB_length,offB_length,hdl];lia
   ·rw [List.length_append,be_length,be_length];decide
  ·rw [be_length];decide
end
noncomputable abbrev lawTags :List Str:= ["cmap","head","maxp"]
noncomputable def lawTag (i:Nat):Str:=lawTags.getD (i %3) "cmap"
theorem lawTag_get (i:Nat):(lawTags.map AVal.str)[i %3]?=some (.str (lawTag i)):=by
 unfold lawTag
 have:i %3=0∨i %3=1∨i %3=2:=lt3c (Nat.mod_lt _ (by decide))
 rcases this with e|e|e<;>rw [e]<;>rfl
theorem lawTag_is (i:Nat):IsTag (lawTag i):=by
 unfold lawTag
 have:i %3=0∨i %3=1∨i %3=2:=lt3c (Nat.mod_lt _ (by decide))
 rcases this with e|e|e<;>rw [e]
 ·exact .cmap
 ·exact .head
 ·exact .maxp
theorem lawTag_ne {i j:Nat}(h:i %3≠j %3):lawTag i≠lawTag j:=by
 unfold lawTag
 have h1:i %3=0∨i %3=1∨i %3=2:=lt3c (Nat.mod_lt _ (by decide))
 have h2:j %3=0∨j %3=1∨j %3=2:=lt3c (Nat.mod_lt _ (by decide))
 rcases h1 with e|e|e<;>rcases h2 with e'|e'|e'<;>rw [e,e'] at h⊢ <;>first|exact absurd rfl h|decide+kernel
noncomputable def tagRow (k m:Nat):List Str:=(List.range m).map fun i=>lawTag (i+k)
theorem tagRow_ok (k:Nat){m:Nat}(h1:1≤m)(h3:m≤3):TagRow (tagRow k m):=by
 have:m=1∨m=2∨m=3:=or13 h1 h3
 rcases this with rfl|rfl|rfl
 ·exact .one (lawTag_is _)
 ·exact .two (lawTag_is _) (lawTag_is _) (lawTag_ne (i:=0+k) (j:=1+k) (by lia))
 ·exact .three (lawTag_is _) (lawTag_is _) (lawTag_is _) (lawTag_ne (i:=0+k) (j:=1+k) (by lia)) (lawTag_ne (i:=0+k) (j:=2+k) (by lia)) (lawTag_ne (i:=1+k) (j:=2+k) (by lia))
theorem tagRow_succ (k m:Nat):tagRow k (m+1)=tagRow k m++ [lawTag (m+k)]:=by
 unfold tagRow
 rw [List.range_succ,List.map_append];rfl
theorem tagRow_new (k:Nat){m:Nat}(h:m<3):lawTag (m+k)∉tagRow k m:=by
 intro q
 obtain ⟨i,hi,e⟩:=List.mem_map.mp q
 have:=List.mem_range.mp hi
 exact lawTag_ne (by lia) e
theorem drawD_in (n c:Int){many:Int}(h:0<many):0≤drawD n c many∧drawD n c many<many:=by
 unfold drawD
 split
 ·exact ⟨Int.emod_nonneg _ (Int.ne_of_gt h),Int.emod_lt_of_pos _ h⟩
 ·exact ⟨Int.emod_nonneg _ (Int.ne_of_gt h),Int.emod_lt_of_pos _ h⟩
noncomputable def penAt (σ:Own)(j:Nat)(a:Addr)(n c:Int):Own:=σ.set j (a,penObj n c)
theorem penAt_len (σ:Own)(j:Nat)(a:Addr)(n c:Int):(penAt σ j a n c).length=σ.length:=List.length_set ..
theorem penAt_self {σ:Own}{j:Nat}{a:Addr}{n c:Int}(h:σ[j]?=some (a,penObj n c)):penAt σ j a n c=σ:=by
 unfold penAt
 obtain ⟨h1,h2⟩:=List.getElem?_eq_some_iff.mp h
 refine rwGr (h2 ..) ?_
 exact List.set_getElem_self h1
structure LawFonts (fs:List Font):Prop where
 pos:1≤fs.length
 few:fs.length≤3
 ok: ∀f∈fs,FontOk f
section
variable {G:Gl}{C:Cx}{lv:List (Option AVal)}{σ:Own}{x:Prop}{Q:AVal→Own→Prop}
theorem draw_spec (hG:G.frag=KF G.w.params)(hrk:1≤C.rk){a:Addr}{j:Nat}{n c many:Int}{τ:Own}(hj:j<σ.length)(hc0:0≤c)(hc:c≤1000000)(hm:0<many)(hm2:many≤1000000)
  (h:Q (.int (drawD n c many)) (penAt σ j a (drawN n many) (c+1)++τ)):CallP G C lv (penAt σ j a n c++τ) (.ref 437) [.ref a,.int many] Q x:=by
 have hl:j<(penAt σ j a n c).length:=by rw [penAt_len];exact hj
 refine law_draw_spec hG hrk (j:=j) (n:=n) ?_ hc0 hc hm hm2 ?_
 ·refine rwG (List.getElem?_append_left hl ..) ?_
  unfold penAt
  rw [List.getElem?_set_self hj]
 ·refine rwG (List.set_append_left _ _ hl ..) ?_
  unfold penAt
  refine rwG (List.set_set ..) ?_
  exact h
theorem Ev.draw (hG:G.frag=KF G.w.params)(hrk:1≤C.rk){a:Addr}{j i:Nat}{n c:Int}{many:Int}{τ:Own}{p1 p2 p3 pos:Pos}{k:Nat}{nk:NameKind}(hj:j<σ.length)(hc0:0≤c)(hc:c≤1000000)(hm:0<many)(hm2:many≤1000000)
  (hn:C.env.scope.names[i]?=some (("pen":Str),nk)) (hv:lv[i]?=some (some (.ref a))) (hk:C.env.kindOf "_law_draw"=some .globalImplicit)
  (h:Q (.int (drawD n c many)) (penAt σ j a (drawN n many) (c+1)++τ)):Ev G C lv (penAt σ j a n c++τ) (.Call (.Name "_law_draw" p1) [.Name "pen" p2,.Constant (.int many) k p3] [] pos) Q x:=
 Ev.call (Ev.glob (hk:=hk) (ns_law_draw hG) ⟨_,rfl,Keeps.fk hG rfl,Args'.cons (Ev.name (i:=i) hn hv (Args'.int (Args'.nil (draw_spec hG hrk hj hc0 hc hm hm2 h))))⟩)
theorem Ev.lawTags {pos:Pos}(hG:G.frag=KF G.w.params)(h:Q (.tup (Internal.lawTags.map .str)) σ)(hk:C.env.kindOf "_law_tags"=some .globalImplicit:=by rfl):Ev G C lv σ (.Name "_law_tags" pos) Q x:=
 Ev.globR (ns_law_tags hG) hk (fun K hK=> .tup (hK 422 _ (by rw [hG];rfl)) (.cons (.str _ _) (.cons (.str _ _) (.cons (.str _ _) .nil)))) h
theorem Ev.lawVersions {pos:Pos}(hG:G.frag=KF G.w.params)(h:Q (.tup (Internal.versions.map .int)) σ)(hk:C.env.kindOf "_law_versions"=some .globalImplicit:=by rfl):Ev G C lv σ (.Name "_law_versions" pos) Q x:=
 Ev.globR (ns_law_versions hG) hk (fun K hK=> .tup (hK 423 _ (by rw [hG];rfl)) (.cons (.int _ _) (.cons (.int _ _) (.cons (.int _ _) .nil)))) h
noncomputable def lv24a (a a1 a2:Addr)(t:Nat→Option AVal):List (Option AVal):= [some (.ref a),some (.ref a1),some (.ref a2),t 3,t 4,t 5,none,none,none,none,none]
noncomputable def lv24t (a a1 a2 a4:Addr)(k:Nat)(t:Nat→Option AVal):List (Option AVal):= [some (.ref a),some (.ref a1),some (.ref a2),some (.int k),some (.ref a4),t 5,none,none,none,none,none]
noncomputable def ta24 (a1 a2:Addr)(fs:List Font)(pool:List (List UInt8)):Own:= [(a1,.list (fs.map fontA)),(a2,.list (pool.map .bytes))]
noncomputable def ta24t (a1 a2 a4:Addr)(fs:List Font)(pool:List (List UInt8))(t:List (Str×List UInt8)):Own:= [(a1,.list (fs.map fontA)),(a2,.list (pool.map .bytes)),(a4,.dS (tabA t))]
inductive Ph24p (σ:Own)(j:Nat)(a a1 a2:Addr)(k:Nat)(lv:List (Option AVal))(σ':Own):Prop where
 |mk (n c:Int) (pool:List (List UInt8)) (h0:0≤c) (h1:c≤100*(k:Int)) (hl:pool.length=k) (hs:Short pool) (e:At (lv24a a a1 a2) (penAt σ j a n c++ta24 a1 a2 [] pool) lv σ')
inductive Ph24f (σ:Own)(j:Nat)(a a1 a2:Addr)(pool:List (List UInt8))(k:Nat)(lv:List (Option AVal))(σ':Own):Prop where
 |mk (n c:Int) (fs:List Font) (h0:0≤c) (h1:c≤500+100*(k:Int)) (hl:fs.length=k) (hs: ∀f∈fs,FontOk f) (e:At (lv24a a a1 a2) (penAt σ j a n c++ta24 a1 a2 fs pool) lv σ')
inductive Ph24t (σ:Own)(j:Nat)(a a1 a2 a4:Addr)(pool:List (List UInt8))(fs:List Font)(k m:Nat)(lv:List (Option AVal))(σ':Own):Prop where
 |mk (n c:Int) (t:List (Str×List UInt8)) (h0:0≤c) (h1:c≤501+100*(k:Int)+m) (hl:t.map (·.1)=tagRow k m) (hs: ∀p∈t,p.2.length≤1000) (e:At (lv24t a a1 a2 a4 k) (penAt σ j a n c++ta24t a1 a2 a4 fs pool t) lv σ')
inductive Ph24c (σ:Own)(j:Nat)(a a1 a2:Addr)(pool:List (List UInt8))(c:Int)(m:Nat)(out:List AVal)(σ':Own):Prop where
 |mk (n':Int) (ns:List Int) (hl:ns.length=m) (hs: ∀v∈ns,(0:Int)≤v∧v<256) (e1:out=ns.map .int) (e2:σ'=penAt σ j a n' (c+1+(m:Int))++ta24 a1 a2 [] pool)
set_option maxHeartbeats 4000000 in
theorem law_fonts_spec (hG:G.frag=KF G.w.params)(hrk:2≤C.rk){a:Addr}{j:Nat}{n:Int}(hj:σ[j]?=some (a,penObj n 0))
  (h: ∀fs n' c',LawFonts fs→0≤c'→c'≤1000→Q (.lst (fs.map fontA)) (penAt σ j a n' c')):CallP G C lv σ (.ref 442) [.ref a] Q x:=by
 have hjl:=(List.getElem?_eq_some_iff.mp hj).1
 have hr1:1≤C.rk - 1:=rk_le hrk
 refine CallP.forget σ.length ?_
 refine CallP.intro (ok_law_fonts hG) rfl (Nat.le_trans (by decide) hrk) (len1 fun _=>rfl) ?_
 intro g L'
 refine Ex.cons (Ex.assignSwap ["fonts","pool"] (Ev.tuple (Args'.cons (Ev.listOwn (Args'.nil ⟨Nat.le_of_ble_eq_true rfl,fun a1=>Args'.cons (Ev.listOwn (Args'.nil ⟨Nat.le_of_ble_eq_true rfl,fun a2=>Args'.nil ⟨Nat.le_of_ble_eq_true rfl,_,rfl,rfl,?_⟩⟩))⟩)))))
 refine StosB.cons 2 rfl (.inl ⟨rfl,rfl⟩) (StosB.cons 1 rfl (.inl ⟨rfl,rfl⟩) (StosB.nil ?_))
 refine rwG (List.append_assoc ..) ?_
 refine Ex.cons (Ex.for ((List.range 4).map fun i=> .int ((0:Int)+(i:Nat)*1)) (Ph24p σ j a a1 a2) ?_ ?_ ?_)
 ·refine Ev.callB (ns_range hG) rfl Keeps.type (Args'.int (Args'.nil (CallP.range1 ⟨.rng _ _ _,n,0,[],Int.le_refl _,Int.le_refl _,rfl,fun p hp=>absurd hp List.not_mem_nil,rfl,?_⟩ (by decide) (by decide))))
  rw [penAt_self hj];rfl
 ·rintro k w lv σ' hk ⟨n,c,pool,hc0,hc1,hpl,hps,e⟩
  refine stE e fun t=>?_
  obtain ⟨k',hk',rfl⟩:=map_at hk
  have hkn:k<4:=by
   have:=(List.getElem?_eq_some_iff.mp hk').1
   rwa [List.length_range] at this
  obtain ⟨d0,d1⟩:=drawD_in n c (many:=18) (by decide)
  refine Sto.nameL 3 rfl ?_
  refine Ex.cons (Ex.expr (Ev.methN (.builtin "list.append") (i:=2) rfl rfl (Meth.append (gx (i:=1) rfl)) (Keeps.builtin) (Args'.cons (Ev.callB (ns_bytes hG) rfl Keeps.type (Args'.cons ?_)))))
  refine Ev.comp [none,none,none,some 0] ((List.range (drawD n c 18).toNat).map fun i=> .int ((0:Int)+(i:Nat)*1)) (Ph24c σ j a a1 a2 pool c) ?_ ?_ ?_ (by rw [List.length_map,List.length_range];lia)
  ·refine Ev.callB (ns_range hG) rfl Keeps.type (Args'.cons (Ev.draw hG hr1 hjl hc0 (by lia) (by decide) (by decide) (i:=0) rfl rfl rfl (Args'.nil (CallP.range1 ⟨.rng _ _ _,drawN n 18,[],rfl,fun v hv=>absurd hv List.not_mem_nil,rfl,?_⟩ (by lia) (by lia)))))
   rw [Int.natCast_zero,Int.add_zero]
  ·rintro m w out σ' hm ⟨n',ns,hnl,hns,rfl,rfl⟩
   have hmn:m<(drawD n c 18).toNat:=by
    have:=(List.getElem?_eq_some_iff.mp hm).1
    rwa [List.length_map,List.length_range] at this
   refine CTurn.name 1 (fun _ _=>rfl) (fun _ _=>rfl) rfl fun cl Cc=>Tsts.nil ?_
   show Ev _ _ _ _ _ _ _
   refine Ev.draw hG hr1 hjl (by lia) (by lia) (by decide) (by decide) (i:=3) rfl rfl (comp_kind rfl rfl) ⟨drawN n' 256,ns++ [drawD n' (c+1+(m:Int)) 256],by rw [List.length_append,hnl];rfl,fun v hv=>?_,by rw [List.map_append];rfl,?_⟩
   ·rcases List.mem_append.mp hv with q|q
    ·exact hns v q
    ·rw [List.mem_singleton.mp q];exact drawD_in n' _ (by decide)
   ·rw [Int.natCast_add,←Int.add_assoc];rfl
  ·rintro out σ' ⟨n',ns,hnl,hns,rfl,rfl⟩
   rw [List.length_map,List.length_range] at hnl⊢
   refine Args'.nil (CallP.bytesL hns (by lia) (Args'.nil (CallP.append (gx (i:=1) rfl) (by rw [List.length_map,hpl];lia) ?_)))
   refine rwG (sx ..) ?_
   refine Ex.nil ⟨n',c+1+((drawD n c 18).toNat:Int),pool++ [ns.map fun v=>v.toNat.toUInt8],?_,?_,by rw [List.length_append,hpl];rfl,?_,rfl,by unfold ta24;rw [List.map_append];rfl⟩
   ·lia
   ·lia
   ·intro p hp
    rcases List.mem_append.mp hp with q|q
    ·exact hps p q
    ·rw [List.mem_singleton.mp q,List.length_map,hnl];lia
 ·rintro lv σ' ⟨n,c,pool,hc0,hc1,hpl,hps,e⟩
  refine stE e fun t=>?_
  rw [List.length_map,List.length_range] at hc1 hpl
  obtain ⟨d0,d1⟩:=drawD_in n c (many:=3) (by decide)
  refine Ex.cons (Ex.for ((List.range (1+drawD n c 3).toNat).map fun i=> .int ((0:Int)+(i:Nat)*1)) (Ph24f σ j a a1 a2 pool) ?_ ?_ ?_)
  ·refine Ev.callB (ns_range hG) rfl Keeps.type (Args'.cons (Ev.binI (Ev.draw hG hr1 hjl hc0 (by lia) (by decide) (by decide) (i:=0) rfl rfl rfl (Bin.add (Args'.nil (CallP.range1 ⟨.rng _ _ _,drawN n 3,c+1,[],by exact Int.le_add_one hc0,by lia,rfl,fun p hp=>absurd hp List.not_mem_nil,rfl,rfl⟩ (by lia) (by lia)))))))
  ·rintro k w lv σ' hk ⟨n2,c2,fs,hc0',hc1',hfl,hfo,e⟩
   refine stE e fun t=>?_
   have hk3:k<(1+drawD n c 3).toNat:=by
    have:=(List.getElem?_eq_some_iff.mp hk).1
    rwa [List.length_map,List.length_range] at this
   obtain ⟨k',hk',rfl⟩:=map_at hk
   rw [List.getElem?_range hk3] at hk'
   cases hk'
   refine rwG (show (0:Int)+(k:Nat)*1=(k:Int) by lia) ?_
   obtain ⟨e0,e1⟩:=drawD_in n2 c2 (many:=3) (by decide)
   refine Sto.nameL 3 rfl ?_
   refine Ex.cons (Ex.assignL 4 rfl (Ev.dictS fun a4=>?_))
   refine rwG (List.append_assoc ..) ?_
   refine Ex.cons (Ex.for ((List.range (1+drawD n2 c2 3).toNat).map fun i=> .int ((0:Int)+(i:Nat)*1)) (Ph24t σ j a a1 a2 a4 pool fs k) ?_ ?_ ?_)
   ·refine Ev.callB (ns_range hG) rfl Keeps.type (Args'.cons (Ev.binI (Ev.draw hG hr1 hjl hc0' (by lia) (by decide) (by decide) (i:=0) rfl rfl rfl (Bin.add (Args'.nil (CallP.range1 ⟨.rng _ _ _,drawN n2 3,c2+1,[],by exact Int.le_add_one hc0',by lia,rfl,fun p hp=>absurd hp List.not_mem_nil,rfl,rfl⟩ (by lia) (by lia)))))))
   ·rintro m w lv σ' hm ⟨n3,c3,t,hc0'',hc1'',htk,hts,e⟩
    refine stE e fun t5=>?_
    have hm3:m<(1+drawD n2 c2 3).toNat:=by
     have:=(List.getElem?_eq_some_iff.mp hm).1
     rwa [List.length_map,List.length_range] at this
    obtain ⟨m',hm',rfl⟩:=map_at hm
    rw [List.getElem?_range hm3] at hm'
    cases hm'
    refine rwG (show (0:Int)+(m:Nat)*1=(m:Int) by lia) ?_
    obtain ⟨f0,f1⟩:=drawD_in n3 c3 (many:=4) (by decide)
    obtain ⟨o,ho⟩: ∃o,pool[(drawD n3 c3 4).toNat]?=some o:=⟨pool[(drawD n3 c3 4).toNat]'(by lia),List.getElem?_eq_getElem _⟩
    have hkey:lawTag (m+k)∉(tabA t).map (·.1):=by rw [tab_keys,htk];exact tagRow_new k (by lia)
    have hnd:((tabA t).map (·.1)).Nodup:=by
     refine rwG (tab_keys ..) ?_;refine rwG (htk ..) ?_
     cases m with
     |zero=>exact List.nodup_nil
     |succ m=>exact (tagRow_ok k (Nat.succ_le_succ (Nat.zero_le _)) (by lia)).nodup
    have htl:(tabA t).length≤3:=by
     have:=congrArg List.length htk
     unfold tagRow at this
     rw [List.length_map,List.length_map,List.length_range] at this
     rw [List.length_map];lia
    refine Sto.nameL 5 rfl ?_
    refine Ex.cons (Ex.setItem (Ev.subN (i:=2) rfl rfl (Ev.draw hG hr1 hjl hc0'' (by lia) (by decide) (by decide) (i:=0) rfl rfl rfl (Item.own (v:= .bytes o) (gx (i:=1) rfl) ?_ f0 (by lia) (by rw [List.getElem?_map,ho];rfl)))))
    refine Ev.name (i:=4) rfl rfl (Ev.sub (Ev.lawTags hG (Ev.bin (Ev.binNN (i:=5) (j:=3) rfl rfl rfl rfl (Bin.add (Ev.int (Bin.mod (Item.tup (v:= .str (lawTag (m+k))) (SetI.dS (gx (i:=2) rfl) hnd (Nat.le_trans htl (by decide)) ?_) ?_ ?_ ?_) (by decide))))))))
    ·refine rwG (sx ..) ?_;refine rwG (put_snoc hkey ..) ?_
     refine Ex.nil ⟨drawN n3 4,c3+1,t++ [(lawTag (m+k),o)],?_,?_,?_,?_,rfl,by unfold ta24t tabA;rw [List.map_append];rfl⟩
     ·exact Int.le_add_one hc0''
     ·lia
     ·rw [List.map_append,htk,tagRow_succ];rfl
     ·intro p hp
      rcases List.mem_append.mp hp with q|q
      ·exact hts p q
      ·rw [List.mem_singleton.mp q];exact hps o (List.mem_of_getElem? ho)
    ·rw [fmod_pos (by decide)];exact Int.zero_le_ofNat ((m+k) %Int.natAbs 3)
    ·rw [fmod_pos (by decide)];lia
    ·have e:(Int.fmod ((m:Int)+(k:Int)) 3).toNat=(m+k) %3:=by rw [fmod_pos (by decide)];rfl
     refine rwG (e ..) ?_
     exact lawTag_get _
   ·rintro lv σ' ⟨n3,c3,t,hc0'',hc1'',htk,hts,e⟩
    refine stE e fun t5=>?_
    rw [List.length_map,List.length_range] at hc1'' htk
    obtain ⟨f0,f1⟩:=drawD_in n3 c3 (many:=3) (by decide)
    obtain ⟨v,hv,hvm⟩: ∃v,versions[(drawD n3 c3 3).toNat]?=some v∧v∈versions:=⟨versions[(drawD n3 c3 3).toNat]'(by show _<3;exact (Int.toNat_lt f0).mpr f1),List.getElem?_eq_getElem _,List.getElem_mem _⟩
    have Fo:FontOk (v,t):=⟨List.any_eq_true.mpr ⟨v,hvm,beq_self_eq_true v⟩,by show TagRow (t.map (·.1));rw [htk];exact tagRow_ok k (by lia) (by lia),hts⟩
    refine Ex.cons (Ex.expr (Ev.methN (.builtin "list.append") (i:=1) rfl rfl (Meth.append (gx (i:=0) rfl)) (Keeps.builtin) (Args'.cons (Ev.tuple (Args'.cons (Ev.sub (Ev.lawVersions hG (Ev.draw hG hr1 hjl hc0'' (by lia) (by decide) (by decide) (i:=0) rfl rfl rfl (Item.tup (v:= .int v) ?_ f0 (by lia) (by rw [List.getElem?_map,hv];rfl))))))))))
    refine Args'.cons (Ev.nameFz (i:=4) _ rfl rfl (gx (i:=2) rfl) (.dS _) ?_)
    refine rwG (ex ..) ?_
    refine Args'.nil ⟨Nat.le_of_ble_eq_true rfl,Args'.nil (CallP.append (gx (i:=0) rfl) (by rw [List.length_map,hfl];lia) ?_)⟩
    refine rwG (sx ..) ?_
    refine Ex.nil ⟨drawN n3 3,c3+1,fs++ [(v,t)],?_,?_,by rw [List.length_append,hfl];rfl,?_,rfl,by unfold ta24;rw [List.map_append];rfl⟩
    ·exact Int.le_add_one hc0''
    ·lia
    ·intro f hf
     rcases List.mem_append.mp hf with q|q
     ·exact hfo f q
     ·rw [List.mem_singleton.mp q];exact Fo
  ·rintro lv σ' ⟨n2,c2,fs,hc0',hc1',hfl,hfo,e⟩
   refine stE e fun t=>?_
   rw [List.length_map,List.length_range] at hc1' hfl
   refine Ex.cons (Ex.ret (Ev.nameFz (i:=1) _ rfl rfl (gx (i:=0) rfl) (.list _) ?_))
   refine rwG (ex ..) ?_;refine rwG (List.take_left' (penAt_len σ j a n2 c2) ..) ?_
   exact h fs n2 c2 ⟨by lia,by lia,hfo⟩ hc0' (by lia)
end
noncomputable def Sub (d:List UInt8)(o:Nat)(b:List UInt8):Prop:= ∀i,i<b.length→d[o+i]?=b[i]?
theorem Sub.le {d:List UInt8}{o:Nat}{b:List UInt8}(h:Sub d o b)(hb:0<b.length):o+b.length≤d.length:=by
 have h1:=h (b.length - 1) (by exact Nat.sub_one_lt_of_lt hb)
 rw [List.getElem?_eq_getElem (by exact Nat.sub_one_lt_of_lt hb:b.length - 1<b.length)] at h1
 have:=(List.getElem?_eq_some_iff.mp h1).1
 lia
theorem Sub.mid (p q r:List UInt8):Sub (p++q++r) p.length q:=fun i hi=>by
 rw [List.getElem?_append_left (by rw [List.length_append];exact Nat.add_lt_add_left hi _),List.getElem?_append_right (Nat.le_add_right _ _),Nat.add_sub_cancel_left]
theorem Sub.trans {d:List UInt8}{o o':Nat}{b c:List UInt8}(h:Sub d o b)(h':Sub b o' c)(hl:o'+c.length≤b.length):Sub d (o+o') c:=fun i hi=>by
 rw [Nat.add_assoc,h (o'+i) (by lia),h' i hi]
theorem Sub.left {d:List UInt8}{o:Nat}{p q:List UInt8}(h:Sub d o (p++q)):Sub d o p:=fun i hi=>by
 rw [h i (by rw [List.length_append];exact Nat.lt_add_right q.length hi),List.getElem?_append_left hi]
theorem Sub.right {d:List UInt8}{o:Nat}{p q:List UInt8}(h:Sub d o (p++q)):Sub d (o+p.length) q:=fun i hi=>by
 rw [Nat.add_assoc,h (p.length+i) (by rw [List.length_append];exact Nat.add_lt_add_left hi p.length),List.getElem?_append_right (Nat.le_add_right _ _),Nat.add_sub_cancel_left]
theorem Sub.flat {l:List (List UInt8)}{k:Nat}{b:List UInt8}(h:l[k]?=some b):Sub l.flatten ((l.take k).flatten.length) b:=by
 have e:l.flatten=(l.take k).flatten++b++(l.drop (k+1)).flatten:=by
  have e1:l.flatten=(l.take k++l.drop k).flatten:=by rw [List.take_append_drop]
  rw [e1,List.flatten_append,drop_cons h,List.flatten_cons,List.append_assoc]
 rw [e]
 exact Sub.mid _ _ _
theorem Sub.congr {d e:List UInt8}{o:Nat}{b:List UInt8}(h:Sub d o b)(he: ∀i,o≤i→i<o+b.length→e[i]?=d[i]?):Sub e o b:=fun i hi=>by
 rw [he (o+i) (Nat.le_add_right _ _) (Nat.add_lt_add_left hi _),h i hi]
theorem Sub.cut {d:List UInt8}{o:Nat}{b:List UInt8}(h:Sub d o b)(hl:o+b.length≤d.length):cut d (some (o:Int)) (some ((o:Int)+(b.length:Nat)))=b:=by
 rw [cut_nat hl]
 refine List.ext_getElem? fun i=>?_
 rw [List.getElem?_take]
 split
 ·rename_i hi
  rw [List.getElem?_drop,h i hi]
 ·rename_i hi
  rw [List.getElem?_eq_none (Nat.le_of_not_lt hi)]
theorem Sub.cut4 {d:List UInt8}{o n:Nat}{v:Int}(h:Sub d o (be v n))(hn:0<n):Internal.cut d (some (o:Int)) (some ((o:Int)+(n:Nat)))=be v n:=by
 have e:=h.cut (h.le (by rw [be_length];exact hn))
 rw [be_length] at e
 exact e
theorem byte_back (v:Int)(k:Nat):(((v/256^k %256).toNat.toUInt8).toNat:Int)=v/256^k %256:=by
 have a:=Int.emod_nonneg (v/256^k) (show (256:Int)≠0 by decide)
 have b:=Int.emod_lt_of_pos (v/256^k) (show (0:Int)<256 by decide)
 rw [Nat.toUInt8_eq,UInt8.toNat_ofNat',Nat.mod_eq_of_lt ((Int.toNat_lt a).mpr b),Int.toNat_of_nonneg a]
theorem byte_up (v:Int)(k:Nat):v/256^(k+1)*256+v/256^k %256=v/256^k:=by
 have e:v/256^(k+1)=v/256^k/256:=by rw [Int.pow_succ];exact (Int.ediv_ediv_of_nonneg (Int.zero_le_ofNat (256^k))).symm
 rw [e]
 exact Int.ediv_mul_add_emod ..
theorem byte_top {v:Int}(h0:0≤v)(k:Nat)(h1:v<256^(k+1)):0*256+v/256^k %256=v/256^k:=by
 rw [Int.zero_mul,Int.zero_add]
 exact Int.emod_eq_of_lt (Int.ediv_nonneg h0 (Int.zero_le_ofNat (256^k))) (Int.ediv_lt_of_lt_mul (Int.pow_pos (by decide)) (by rw [Int.mul_comm,←Int.pow_succ];exact h1))
theorem numOf_be4 {v:Int}(h0:0≤v)(h1:v<256^4):numOf (be v 4)=v:=by
 have hb:=byte_back v
 show ((((0*256+(((v/256^3 %256).toNat.toUInt8).toNat:Int))*256+(((v/256^2 %256).toNat.toUInt8).toNat:Int))*256+(((v/256^1 %256).toNat.toUInt8).toNat:Int))*256+(((v/256^0 %256).toNat.toUInt8).toNat:Int))=v
 rw [hb,hb,hb,hb,byte_top h0 3 h1,byte_up v 2,byte_up v 1,byte_up v 0]
 exact Int.ediv_one v
theorem numOf_be2 {v:Int}(h0:0≤v)(h1:v<256^2):numOf (be v 2)=v:=by
 have hb:=byte_back v
 show ((0*256+(((v/256^1 %256).toNat.toUInt8).toNat:Int))*256+(((v/256^0 %256).toNat.toUInt8).toNat:Int))=v
 rw [hb,hb,byte_top h0 1 h1,byte_up v 0]
 exact Int.ediv_one v
theorem Sub.num4 {d:List UInt8}{o:Nat}{v:Int}(h:Sub d o (be v 4))(h0:0≤v)(h1:v<256^4):num4 d o=v:=by
 unfold Internal.num4
 have:=h.cut4 (by decide)
 rw [show ((4:Nat):Int)=4 from rfl] at this
 rw [this,numOf_be4 h0 h1]
theorem Sub.rec {d:List UInt8}{w:Nat}{r:Rec}(h:Sub d w (recB r))(R:RecOk r):recAt d (w:Int)=(r.1,r.2.1,r.2.2.1,r.2.2.2.1,(w:Int)):=by
 have ht:=tagB_length R.tag
 unfold recB at h
 have h4:=h.right
 have h3:=h.left.right
 have h2:=h.left.left.right
 have h1:=h.left.left.left
 rw [List.length_append,List.length_append,ht,be_length,be_length] at h4
 rw [List.length_append,ht,be_length] at h3
 rw [ht] at h2
 unfold recAt
 have c1:=h1.cut (h1.le (by rw [ht];decide))
 rw [ht,show ((4:Nat):Int)=4 from rfl] at c1
 have c2:=h2.cut4 (by decide)
 have c3:=h3.cut4 (by decide)
 have c4:=h4.cut4 (by decide)
 rw [show ((w+4:Nat):Int)=(w:Int)+4 by exact Nat.ToInt.add_congr rfl rfl,show ((4:Nat):Int)=4 from rfl] at c2
 rw [show ((w+(4+4):Nat):Int)=(w:Int)+4+4 by exact Eq.symm ((fun {a}{n}=>Int.mem_toNat?.mp) rfl),show ((4:Nat):Int)=4 from rfl] at c3
 rw [show ((w+(4+4+4):Nat):Int)=(w:Int)+4+4+4 by exact Eq.symm ((fun {a}{n}=>Int.mem_toNat?.mp) rfl),show ((4:Nat):Int)=4 from rfl] at c4
 rw [c1,c2,c3,c4,tagR_tagB R.tag,numOf_be4 R.t0 R.t1,numOf_be4 R.b0 R.b1,numOf_be4 R.l0 R.l1]
noncomputable abbrev recW (r:Row)(w:Nat):Rec:=(r.1,sumT (plainT r.1 r.2.1),r.2.2,(r.2.1.length:Int),(w:Int))
structure DirIn (d:List UInt8)(b:Nat)(v:Int)(rs:List Row)(low:Nat):Prop where
 dir:Sub d b (dirB (v,rs))
 ver:(versions.any (· ==v))=true
 pos:1≤rs.length
 few:rs.length≤3
 recok: ∀r∈rs,RecOk (recOf r)
 asc:(rs.map (·.1)).Pairwise fun y z=>y.cps.toList<z.cps.toList
 nodup:(rs.map (·.1)).Nodup
 data: ∀r∈rs,∃p:Nat,r.2.2=(p:Int)∧low≤p∧Sub d p r.2.1∧p+r.2.1.length≤d.length
 apart: ∀r∈rs,∀r'∈rs,r≠r'→0<r.2.1.length→0<r'.2.1.length→(r.2.2+r.2.1.length≤r'.2.2∨r'.2.2+r'.2.1.length≤r.2.2)
 low:b+12+16*rs.length≤low
theorem DirIn.head {d:List UInt8}{b:Nat}{v:Int}{n:Nat}(h:Sub d b (dirH v n))(hv:0≤v∧v<256^4)(hn:n≤3):verAt d b=v∧cntAt d b=n:=by
 unfold dirH at h
 have h1:=h.left.left
 have h2:=h.left.right
 rw [be_length] at h2
 unfold verAt cntAt
 have c1:=h1.cut4 (by decide)
 have c2:=h2.cut4 (by decide)
 rw [show ((b+4:Nat):Int)=(b:Int)+4 by exact Nat.ToInt.add_congr rfl rfl,show ((2:Nat):Int)=2 from rfl] at c2
 rw [show ((4:Nat):Int)=4 from rfl] at c1
 rw [c1,c2,numOf_be4 hv.1 hv.2,numOf_be2 (Int.natCast_nonneg _) (Int.lt_of_le_of_lt (Int.ofNat_le.mpr hn) (by decide))]
 exact ⟨rfl,rfl⟩
section
variable {d:List UInt8}{b:Nat}{v:Int}{rs:List Row}{low:Nat}
theorem dirB_eq (v:Int)(rs:List Row):dirB (v,rs)=dirH v rs.length++(rs.map rowB).flatten:=by
 unfold dirB dirR
 rw [List.length_map,List.map_map];rfl
theorem DirIn.row (h:DirIn d b v rs low){j:Nat}{r:Row}(hr:rs[j]?=some r):(recsAt d b rs.length)[j]?=some (recW r (b+12+j*16)):=by
 have hj:=(List.getElem?_eq_some_iff.mp hr).1
 have R:=h.recok r (List.mem_of_getElem? hr)
 have h1:=h.dir
 rw [dirB_eq] at h1
 have h2:=h1.right
 rw [dirH_length] at h2
 have hf:(rs.map rowB)[j]?=some (rowB r):=by rw [List.getElem?_map,hr];rfl
 have h3:=Sub.flat hf
 have hl:(((rs.map rowB).take j).flatten).length=16*j:=by
  rw [←List.map_take,rowsB_len fun q hq=>(h.recok q (List.mem_of_mem_take hq)).tag,List.length_take,Nat.min_eq_left (Nat.le_of_lt hj)]
 rw [hl] at h3
 have h4:=h2.trans h3 (by
  rw [show (rowB r).length=16 from recB_length R.tag,rowsB_len fun q hq=>(h.recok q hq).tag]
  lia)
 have h5:=h4.rec R
 unfold recsAt
 rw [List.getElem?_map,List.getElem?_range hj,Option.map_some,show b+12+j*16=b+12+16*j by lia,h5];rfl
theorem DirIn.recs (h:DirIn d b v rs low){q:Rec}(hq:q∈recsAt d b rs.length): ∃j r,rs[j]?=some r∧(recsAt d b rs.length)[j]?=some q∧q=recW r (b+12+j*16):=by
 obtain ⟨j,hj⟩:=List.mem_iff_getElem?.mp hq
 have hjl:=(List.getElem?_eq_some_iff.mp hj).1
 rw [recsAt_length] at hjl
 have hr:rs[j]?=some rs[j]:=List.getElem?_eq_getElem hjl
 have e:=h.row hr
 rw [hj] at e
 exact ⟨j,rs[j],hr,hj,Option.some.inj e⟩
theorem DirIn.tags (h:DirIn d b v rs low):(recsAt d b rs.length).map (·.1)=rs.map (·.1):=by
 refine List.ext_getElem? fun j=>?_
 rw [List.getElem?_map,List.getElem?_map]
 cases e:rs[j]? with
 |none=>rw [List.getElem?_eq_none (by rw [recsAt_length];exact List.getElem?_eq_none_iff.mp e)];rfl
 |some r=>rw [h.row e];rfl
theorem DirIn.tabs (h:DirIn d b v rs low):tabOf d (recsAt d b rs.length)=rs.map itemOf:=by
 unfold tabOf
 refine List.ext_getElem? fun j=>?_
 rw [List.getElem?_map,List.getElem?_map]
 cases e:rs[j]? with
 |none=>rw [List.getElem?_eq_none (by rw [recsAt_length];exact List.getElem?_eq_none_iff.mp e)];rfl
 |some r=>
  rw [h.row e]
  obtain ⟨p,hp,_,hs,hl⟩:=h.data r (List.mem_of_getElem? e)
  show some (r.1,cut d (some r.2.2) (some (r.2.2+(r.2.1.length:Int))))=some (r.1,r.2.1)
  rw [hp,hs.cut hl]
theorem DirIn.ok (h:DirIn d b v rs low):ROk d b rs.length∧verAt d b=v:=by
 obtain ⟨v0,v1⟩:=ver_bd h.ver
 have h1:=h.dir
 rw [dirB_eq] at h1
 obtain ⟨e1,e2⟩:=DirIn.head h1.left ⟨v0,v1⟩ h.few
 have hroom:=h.dir.le (by rw [dirB_length h.recok];exact Nat.pos_of_neZero (12+16*rs.length))
 rw [dirB_length h.recok] at hroom
 have span: ∀t∈spans (recsAt d b rs.length) b (b+(12+16*rs.length)),(t=((b:Int),(b:Int)+(12+16*rs.length),(b:Int)))∨ ∃j r,rs[j]?=some r∧0<r.2.1.length∧t=(r.2.2,r.2.2+(r.2.1.length:Int),((b+12+j*16:Nat):Int)):=by
  intro t ht
  unfold spans at ht
  rcases List.mem_append.mp ht with q|q
  ·obtain ⟨q',hq',rfl⟩:=List.mem_map.mp q
   obtain ⟨hm,hl⟩:=List.mem_filter.mp hq'
   obtain ⟨j,r,hr,_,rfl⟩:=h.recs hm
   exact .inr ⟨j,r,hr,by have:=of_decide_eq_true hl;change (0:Int)<(r.2.1.length:Int) at this;exact Int.natCast_pos.mp this,rfl⟩
  ·exact .inl (List.mem_singleton.mp q)
 refine ⟨⟨by rw [e1];exact h.ver,e2,h.few,by lia,fun k r r' hr hr'=>?_,fun r hr=>?_,⟨?_,fun t ht u hu hlt=>?_⟩,by rw [h.tags];exact h.nodup⟩,e1⟩
 ·have h3:=h.tags▸h.asc
  rw [List.pairwise_iff_getElem] at h3
  obtain ⟨a1,a2⟩:=List.getElem?_eq_some_iff.mp hr
  obtain ⟨b1,b2⟩:=List.getElem?_eq_some_iff.mp hr'
  have:=h3 k (k+1) (by rw [List.length_map];exact a1) (by rw [List.length_map];exact b1) (Nat.lt_succ_self k)
  rw [List.getElem_map,List.getElem_map,a2,b2] at this
  exact this
 ·obtain ⟨j,q,hq,_,rfl⟩:=h.recs hr
  obtain ⟨p,hp,_,hs,hl⟩:=h.data q (List.mem_of_getElem? hq)
  show q.2.2+(q.2.1.length:Int)≤_
  rw [hp];exact Int.toNat_le.mp hl
 ·unfold spans
  rw [List.map_append,List.nodup_append]
  refine ⟨?_,by simp,fun x hx y hy=>?_⟩
  ·rw [List.map_map,List.Nodup,List.pairwise_map]
   have hnd:(recsAt d b rs.length).Nodup:=by
    have:=h.nodup
    rw [←h.tags] at this
    exact (List.pairwise_map.mp this).imp fun hne e=>hne (by rw [e])
   refine (List.Pairwise.filter _ hnd).imp_of_mem fun {q q'} hq hq' hne=>?_
   obtain ⟨hm,hl⟩:=List.mem_filter.mp hq
   obtain ⟨hm',hl'⟩:=List.mem_filter.mp hq'
   obtain ⟨j,r,hr,hj,rfl⟩:=h.recs hm
   obtain ⟨j',r',hr',hj',rfl⟩:=h.recs hm'
   have l1:(0:Int)<(r.2.1.length:Int):=of_decide_eq_true hl
   have l2:(0:Int)<(r'.2.1.length:Int):=of_decide_eq_true hl'
   have hrr:r≠r':=fun e=>by
    subst e
    have hjj:j=j':=by
     have hn:=h.nodup
     have m1:(rs.map (·.1))[j]?=some r.1:=by rw [List.getElem?_map,hr];rfl
     have m2:(rs.map (·.1))[j']?=some r.1:=by rw [List.getElem?_map,hr'];rfl
     obtain ⟨x1,x2⟩:=List.getElem?_eq_some_iff.mp m1
     obtain ⟨y1,y2⟩:=List.getElem?_eq_some_iff.mp m2
     exact (List.getElem_inj hn).mp (x2.trans y2.symm)
    exact hne (by rw [hjj])
   show r.2.2≠r'.2.2
   rcases h.apart r (List.mem_of_getElem? hr) r' (List.mem_of_getElem? hr') hrr (by exact Int.natCast_pos.mp l1) (by exact Int.natCast_pos.mp l2) with q|q<;>lia
  ·obtain ⟨t,ht,rfl⟩:=List.mem_map.mp hx
   obtain ⟨q',hq',rfl⟩:=List.mem_map.mp ht
   obtain ⟨hm,hl⟩:=List.mem_filter.mp hq'
   obtain ⟨j,r,hr,_,rfl⟩:=h.recs hm
   obtain ⟨p,hp,hlo,_,_⟩:=h.data r (List.mem_of_getElem? hr)
   have:=h.low
   rw [List.map_singleton,List.mem_singleton] at hy
   rw [hy]
   show r.2.2≠(b:Int)
   lia
 ·have hlo:=h.low
  rcases span t ht with rfl|⟨j,r,hr,hl,rfl⟩<;>rcases span u hu with rfl|⟨j',r',hr',hl',rfl⟩
  ·exact absurd hlt (Int.lt_irrefl _)
  ·obtain ⟨p,hp,hl,_,_⟩:=h.data r' (List.mem_of_getElem? hr')
   show (b:Int)+(12+16*rs.length)≤r'.2.2
   lia
  ·obtain ⟨p,hp,hl,_,_⟩:=h.data r (List.mem_of_getElem? hr)
   change r.2.2<(b:Int) at hlt
   lia
  ·change r.2.2<r'.2.2 at hlt
   show r.2.2+(r.2.1.length:Int)≤r'.2.2
   by_cases e:r=r'
   ·subst e;exact absurd hlt (Int.lt_irrefl _)
   ·rcases h.apart r (List.mem_of_getElem? hr) r' (List.mem_of_getElem? hr') e hl hl' with q|q<;>lia
end
noncomputable def PInv (b:Int)(ps:List (List UInt8))(rs:List Row)(tk:List Nat):Prop:=tk.Nodup∧tk.length=rs.length∧ ∀(j:Nat) (r:Row),rs[j]?=some r→ ∃i:Nat,tk[j]?=some i∧ps[i]?=some r.2.1∧r.2.2=spotOf b ps i
theorem PInv.more {b:Int}{ps:List (List UInt8)}{rs:List Row}{tk:List Nat}(h:PInv b ps rs tk)(q:List (List UInt8)):PInv b (ps++q) rs tk:=by
 refine ⟨h.1,h.2.1,fun j r hr=>?_⟩
 refine hideG fun M kM=>?_
 obtain ⟨i,e1,e2,e3⟩:=h.2.2 j r hr
 refine kM ?_
 clear kM
 have hi:=(List.getElem?_eq_some_iff.mp e2).1
 refine ⟨i,e1,by rw [List.getElem?_append_left hi];exact e2,?_⟩
 rw [e3]
 unfold spotOf
 rw [List.take_append_of_le_length (Nat.le_of_lt hi)]
theorem PInv.step {b:Int}{s:St}(h:PInv b s.ps s.rows s.tk)(p:Item'):PInv b (stepF b s p).ps (stepF b s p).rows (stepF b s p).tk∧ ∃q,(stepF b s p).ps=s.ps++q:=by
 have key:pick s.ps s.tk p.2∉s.tk∧(grow s.ps (pick s.ps s.tk p.2) p.2)[pick s.ps s.tk p.2]?=some p.2∧ ∃q,grow s.ps (pick s.ps s.tk p.2) p.2=s.ps++q:=by
  rcases pick_cases s.ps s.tk p.2 with ⟨e1,e2,e3⟩|⟨i,r,e1,e2,hi,hio,hit,e3⟩
  ·rw [e3,e2]
   refine ⟨fun q=>?_,by rw [List.getElem?_append_right (Nat.le_refl _),Nat.sub_self];rfl,_,rfl⟩
   obtain ⟨j,hj⟩:=List.mem_iff_getElem?.mp q
   have hjl:=(List.getElem?_eq_some_iff.mp hj).1
   rw [h.2.1] at hjl
   refine hideG fun M kM=>?_
   obtain ⟨i,a1,a2,_⟩:=h.2.2 j _ (List.getElem?_eq_getElem hjl)
   refine kM ?_
   clear kM
   rw [hj] at a1
   cases a1
   exact absurd (List.getElem?_eq_some_iff.mp a2).1 (Nat.lt_irrefl _)
  ·rw [e3,e2]
   exact ⟨hit,hio,[],(List.append_nil _).symm⟩
 refine hideG fun M kM=>?_
 obtain ⟨k1,k2,q,k3⟩:=key
 refine kM ?_
 clear kM
 unfold stepF
 dsimp only
 rw [k3] at k2⊢
 have h':=h.more q
 generalize pick s.ps s.tk p.2=i at k1 k2
 refine ⟨⟨List.nodup_append.mpr ⟨h'.1,by simp,fun a ha c hc e=>?_⟩,by rw [List.length_append,List.length_append,h'.2.1];rfl,fun j r hr=>?_⟩,q,rfl⟩
 ·rw [List.mem_singleton.mp hc] at e
  exact k1 (e▸ha)
 ·rcases Nat.lt_or_ge j s.rows.length with hj|hj
  ·rw [List.getElem?_append_left hj] at hr
   obtain ⟨i',a1,a2⟩:=h'.2.2 j r hr
   exact ⟨i',by rw [List.getElem?_append_left (by rw [h'.2.1];exact hj)];exact a1,a2⟩
  ·have hj':=(List.getElem?_eq_some_iff.mp hr).1
   rw [List.length_append,List.length_singleton] at hj'
   have ej:j=s.rows.length:=by exact Nat.eq_of_le_of_lt_succ hj hj'
   subst ej
   rw [List.getElem?_append_right (Nat.le_refl _),Nat.sub_self] at hr
   cases hr
   exact ⟨i,by rw [List.getElem?_append_right (by rw [h'.2.1];exact Nat.le_refl _),h'.2.1,Nat.sub_self];rfl,k2,rfl⟩
theorem PInv.fold {b:Int}: ∀(l:List Item') (s:St),PInv b s.ps s.rows s.tk→PInv b (l.foldl (stepF b) s).ps (l.foldl (stepF b) s).rows (l.foldl (stepF b) s).tk∧ ∃q,(l.foldl (stepF b) s).ps=s.ps++q
 | [],s,h=>⟨h,[],(List.append_nil _).symm⟩
 |p::r,s,h=>by
  refine hideG fun M kM=>?_
  obtain ⟨h1,q1,e1⟩:=h.step p
  obtain ⟨h2,q2,e2⟩:=PInv.fold r (stepF b s p) h1
  refine kM ?_
  clear kM
  rw [List.foldl_cons]
  exact ⟨h2,q1++q2,by rw [e2,e1,List.append_assoc]⟩
theorem PInv.plan {b:Int}: ∀(l:List Font) (F:Ft),(∀p∈F.rows,∃tk,PInv b F.ps p.2 tk)→ ∀p∈(l.foldl (stepG b) F).rows,∃tk,PInv b (l.foldl (stepG b) F).ps p.2 tk
 | [],F,h=>h
 |f::r,F,h=>by
  rw [List.foldl_cons]
  obtain ⟨h1,q,e⟩:=PInv.fold (b:=b) (items f) ⟨F.ps,[],[]⟩ ⟨List.nodup_nil,rfl,fun j r hr=>by cases hr⟩
  refine PInv.plan r (stepG b F f) fun p hp=>?_
  rcases List.mem_append.mp hp with m|m
  ·obtain ⟨tk,ht⟩:=h p m
   refine ⟨tk,?_⟩
   show PInv b ((items f).foldl (stepF b) ⟨F.ps,[],[]⟩).ps p.2 tk
   rw [e]
   exact ht.more q
  ·rw [List.mem_singleton.mp m]
   exact ⟨_,h1⟩
theorem tags_asc (f:Font):(tags f).Pairwise fun y z=>y.cps.toList<z.cps.toList:=by
 unfold tags tagSort
 exact List.Pairwise.filter _ (by decide+kernel)
theorem spotOf_mono {b:Int}{ps:List (List UInt8)}{i j:Nat}{o:List UInt8}(hi:ps[i]?=some o)(h:i<j):spotOf b ps i+((fill o).length:Int)≤spotOf b ps j:=by
 unfold spotOf
 have e:(ps.take j).map fill=(ps.take i).map fill++ [fill o]++((ps.take j).drop (i+1)).map fill:=by
  have e1:ps.take j=(ps.take j).take i++(ps.take j).drop i:=(List.take_append_drop _ _).symm
  have e2:(ps.take j)[i]?=some o:=by rw [List.getElem?_take,if_pos h];exact hi
  rw [drop_cons e2,List.take_take,Nat.min_eq_left (Nat.le_of_lt h)] at e1
  rw [e1,List.map_append,List.map_cons,List.append_assoc,List.singleton_append]
  congr 3
  rw [←e1]
 rw [e,List.flatten_append,List.flatten_append,List.length_append,List.length_append,List.flatten_singleton]
 lia
theorem fill_ge (o:List UInt8):o.length≤(fill o).length:=by unfold fill;rw [List.length_append];exact Nat.le_add_right _ _
section
variable {fs:List Font}
theorem rows_lens {b:Int}(hb:0≤b)(hb2:b≤4108){l:List Font}(hf: ∀f∈l,FontOk f)(hz:l.length≤64):(plan b l).rows.map (fun p=>(dirB p).length)=l.map fun f=>12+16*f.2.length:=by
 have hrl:=plan_rows_len b l ⟨[],[]⟩
 change (plan b l).rows.length=0+l.length at hrl
 rw [Nat.zero_add] at hrl
 refine List.ext_getElem? fun k=>?_
 rw [List.getElem?_map,List.getElem?_map]
 cases e:l[k]? with
 |none=>rw [List.getElem?_eq_none (by rw [hrl];exact List.getElem?_eq_none_iff.mp e)];rfl
 |some f=>
  refine hideG fun M kM=>?_
  obtain ⟨rs,h1,h2,h3⟩:=plan_hrow hb hb2 hf hz e
  refine kM ?_
  clear kM
  rw [h1]
  show some (dirB (f.1,rs)).length=_
  rw [dirB_length fun r hr=>(h3 r hr).1,rs_len h2,(hf f (List.mem_of_getElem? e)).tagsLen];rfl
noncomputable abbrev low (fs:List Font):Nat:=dirAt fs.length fs fs.length
theorem dirs_take (hf: ∀f∈fs,FontOk f)(hz:fs.length≤64)(k:Nat):12+4*fs.length+(((planOf fs).rows.map dirB).take k).flatten.length=dirAt fs.length fs k:=by
 have h:=rows_lens (b:=(low fs:Int)) (Int.natCast_nonneg _) (Int.ofNat_le.mpr (dirAt_le hf hz hz _)) hf hz
 unfold dirAt
 rw [flat_len,List.map_take,List.map_map,show (List.length∘dirB)=fun p=>(dirB p).length from rfl,show planOf fs=plan (low fs:Int) fs from rfl,h,List.map_take]
theorem dirAt_mono (n:Nat)(fs:List Font){i j:Nat}(h:i≤j):dirAt n fs i≤dirAt n fs j:=by
 unfold dirAt
 refine Nat.add_le_add_left ?_ _
 obtain ⟨m,rfl⟩:=Nat.exists_eq_add_of_le h
 rw [List.take_add,List.map_append,List.sum_append]
 exact Nat.le_add_right _ _
theorem write_offs {k:Nat}(hk:k<fs.length):Sub (writeB fs) (12+4*k) (be (dirAt fs.length fs k) 4):=by
 have h1:Sub (writeB fs) 12 (offB fs.length fs fs.length):=by
  have:=Sub.mid (headB fs.length) (offB fs.length fs fs.length) (dirsB (planOf fs).rows++((planOf fs).ps.map fill).flatten)
  rw [headB_length,←List.append_assoc] at this
  exact this
 have h2:((List.range fs.length).map fun j=>be (dirAt fs.length fs j:Nat) 4)[k]?=some (be (dirAt fs.length fs k:Nat) 4):=by
  rw [List.getElem?_map,List.getElem?_range hk];rfl
 have h3:=Sub.flat h2
 have h4:((((List.range fs.length).map fun j=>be (dirAt fs.length fs j:Nat) 4).take k).flatten).length=4*k:=by
  rw [←List.map_take,List.take_range,Nat.min_eq_left (Nat.le_of_lt hk)]
  exact offB_length fs.length fs k
 rw [h4] at h3
 exact h1.trans h3 (by rw [be_length,offB_length];lia)
theorem write_dirs (hf: ∀f∈fs,FontOk f)(hz:fs.length≤64){k:Nat}{p:Int×List Row}(hk:(planOf fs).rows[k]?=some p):Sub (writeB fs) (dirAt fs.length fs k) (dirB p):=by
 have h1:Sub (writeB fs) (12+4*fs.length) (dirsB (planOf fs).rows):=by
  have:=Sub.mid (headB fs.length++offB fs.length fs fs.length) (dirsB (planOf fs).rows) (((planOf fs).ps.map fill).flatten)
  rw [List.length_append,headB_length,offB_length] at this
  exact this
 have h2:((planOf fs).rows.map dirB)[k]?=some (dirB p):=by rw [List.getElem?_map,hk];rfl
 have h3:=Sub.flat h2
 have h4:=h1.trans h3 (by
  have e:(dirsB (planOf fs).rows)=((planOf fs).rows.map dirB).flatten:=rfl
  have e2:((planOf fs).rows.map dirB).flatten=(((planOf fs).rows.map dirB).take k).flatten++(((planOf fs).rows.map dirB).drop k).flatten:=by rw [←List.flatten_append,List.take_append_drop]
  rw [e,e2,List.length_append,drop_cons h2,List.flatten_cons,List.length_append]
  lia)
 rw [dirs_take hf hz] at h4
 exact h4
theorem write_body (hf: ∀f∈fs,FontOk f)(hz:fs.length≤64):Sub (writeB fs) (low fs) (((planOf fs).ps.map fill).flatten)∧(writeB fs).length=low fs+(((planOf fs).ps.map fill).flatten).length:=by
 have hrl:=plan_rows_len (low fs:Int) fs ⟨[],[]⟩
 change (planOf fs).rows.length=0+fs.length at hrl
 rw [Nat.zero_add] at hrl
 have h5:=dirs_take hf hz fs.length
 rw [List.take_of_length_le (by rw [List.length_map,hrl];exact Nat.le_refl _)] at h5
 have hl:(headB fs.length++offB fs.length fs fs.length++dirsB (planOf fs).rows).length=low fs:=by
  rw [List.length_append,List.length_append,headB_length,offB_length]
  exact h5
 constructor
 ·have:=Sub.mid (headB fs.length++offB fs.length fs fs.length++dirsB (planOf fs).rows) (((planOf fs).ps.map fill).flatten) []
  rw [hl,List.append_nil] at this
  exact this
 ·unfold writeB
  rw [List.length_append,hl]
theorem write_dirIn (hf: ∀f∈fs,FontOk f)(hz:fs.length≤64){k:Nat}{f:Font}(hk:fs[k]?=some f){d:List UInt8}(hl:d.length=(writeB fs).length)
  (h1: ∀i,dirAt fs.length fs k≤i→i<dirAt fs.length fs (k+1)→d[i]?=(writeB fs)[i]?) (h2: ∀i,low fs≤i→d[i]?=(writeB fs)[i]?):
  ∃rs:List Row,DirIn d (dirAt fs.length fs k) f.1 rs (low fs)∧rs.map itemOf=items f:=by
 have Fo:=hf f (List.mem_of_getElem? hk)
 have hkl:=(List.getElem?_eq_some_iff.mp hk).1
 have hb1:((low fs:Nat):Int)≤4108:=Int.ofNat_le.mpr (dirAt_le hf hz hz _)
 refine hideG fun M kM=>?_
 obtain ⟨rs,hr,hit,hok⟩:=plan_hrow (b:=(low fs:Int)) (Int.natCast_nonneg _) hb1 hf hz hk
 have hrl:rs.length=f.2.length:=(rs_len hit).trans Fo.tagsLen
 have hkeys:rs.map (·.1)=tags f:=by
  have:=rs_keys hit
  rw [List.map_map] at this
  exact this
 obtain ⟨tk,p1,p2,p3⟩:=PInv.plan (b:=(low fs:Int)) fs ⟨[],[]⟩ (fun p hp=>absurd hp List.not_mem_nil) _ (List.mem_of_getElem? hr)
 refine kM ?_
 clear kM
 change ∀(j:Nat) (r:Row),rs[j]?=some r→ ∃i,tk[j]?=some i∧(planOf fs).ps[i]?=some r.2.1∧r.2.2=spotOf (low fs:Int) (planOf fs).ps i at p3
 have hD:=write_dirs hf hz (k:=k) hr
 have hdl:=dirB_length (v:=f.1) fun r hr=>(hok r hr).1
 have hsucc:=dirAt_succ (n:=fs.length) hk
 obtain ⟨hB,hBl⟩:=write_body hf hz
 have hmono:=dirAt_mono fs.length fs (show k+1≤fs.length from hkl)
 refine ⟨rs,⟨hD.congr fun i a b=>h1 i a (by rw [hsucc,←hrl];rw [hdl] at b;exact b),Fo.ver,by rw [hrl];exact Fo.few.1,by rw [hrl];exact Fo.few.2,fun r hr=>(hok r hr).1,by rw [hkeys];exact tags_asc f,by rw [hkeys];exact tags_nodup f,fun r hr=>?_,fun r hr r' hr' hne hl1 hl2=>?_,by rw [hrl];show _≤low fs;unfold low;lia⟩,hit⟩
 ·obtain ⟨j,hj⟩:=List.mem_iff_getElem?.mp hr
  refine hideG fun M kM=>?_
  obtain ⟨i,a1,a2,a3⟩:=p3 j r hj
  refine kM ?_
  clear kM
  have h3:((planOf fs).ps.map fill)[i]?=some (fill r.2.1):=by rw [List.getElem?_map,a2];rfl
  have h4:=Sub.flat h3
  have e2:((planOf fs).ps.map fill).flatten=(((planOf fs).ps.map fill).take i).flatten++(((planOf fs).ps.map fill).drop i).flatten:=by rw [←List.flatten_append,List.take_append_drop]
  have h5:(((planOf fs).ps.map fill).take i).flatten.length+(fill r.2.1).length≤((planOf fs).ps.map fill).flatten.length:=by
   have:=congrArg List.length e2
   rw [List.length_append,drop_cons h3,List.flatten_cons,List.length_append] at this
   lia
  have h6:=hB.trans h4 h5
  have hfg:=fill_ge r.2.1
  unfold fill at h6
  refine ⟨low fs+(((planOf fs).ps.map fill).take i).flatten.length,a3.trans ?_,?_,h6.left.congr fun q a b=>h2 q ?_,?_⟩
  ·unfold spotOf
   rw [List.map_take]
   exact (Int.natCast_add _ _).symm
  ·exact Nat.le_add_right _ _
  ·exact Nat.le_trans (Nat.le_add_right _ _) a
  ·rw [hl,hBl];lia
 ·obtain ⟨j,hj⟩:=List.mem_iff_getElem?.mp hr
  refine hideG fun M kM=>?_
  obtain ⟨j',hj'⟩:=List.mem_iff_getElem?.mp hr'
  obtain ⟨i,a1,a2,a3⟩:=p3 j r hj
  obtain ⟨i',b1,b2,b3⟩:=p3 j' r' hj'
  refine kM ?_
  clear kM
  have hii:i≠i':=fun e=>by
   subst e
   refine hideG fun M kM=>?_
   obtain ⟨x1,x2⟩:=List.getElem?_eq_some_iff.mp a1
   obtain ⟨y1,y2⟩:=List.getElem?_eq_some_iff.mp b1
   refine kM ?_
   clear kM
   have:=(List.getElem_inj p1).mp (x2.trans y2.symm)
   subst this
   rw [hj] at hj'
   exact hne (Option.some.inj hj')
  have f1:=fill_ge r.2.1
  have f2:=fill_ge r'.2.1
  rw [a3,b3]
  rcases Nat.lt_or_gt_of_ne hii with q|q
  ·have:=spotOf_mono (b:=(low fs:Int)) a2 q
   exact .inl (by lia)
  ·have:=spotOf_mono (b:=(low fs:Int)) b2 q
   exact .inr (by lia)
end
theorem cut_pre {α:Type}(d:List α)(k:Nat):cut d none (some (k:Int))=d.take k:=by
 unfold cut
 have e:clipAt d.length (k:Int)=min k d.length:=KBc.clip_lit _ k
 rw [Option.elim_none,Option.elim_some,e,List.drop_zero,Nat.sub_zero,kmk_take_min]
theorem cut_suf {α:Type}(d:List α)(k:Nat):cut d (some (k:Int)) none=d.drop k:=by
 unfold cut
 have e:clipAt d.length (k:Int)=min k d.length:=KBc.clip_lit _ k
 rw [Option.elim_none,Option.elim_some,e]
 rcases Nat.le_total k d.length with h|h
 ·rw [Nat.min_eq_left h,List.take_of_length_le (by rw [List.length_drop];exact Nat.le_refl _)]
 ·rw [Nat.min_eq_right h,Nat.sub_self,List.take_zero,List.drop_eq_nil_of_le h]
noncomputable def patch (d:List UInt8)(p:Nat)(c:UInt8):List UInt8:=d.take p++ [c]++d.drop (p+1)
theorem patch_get {d:List UInt8}{p:Nat}{c:UInt8}(h:p<d.length)(i:Nat):(patch d p c)[i]?=if i=p then some c else d[i]?:=by
 have hl:(d.take p).length=p:=by rw [List.length_take];exact Nat.min_eq_left (Nat.le_of_lt h)
 unfold patch
 rcases Nat.lt_trichotomy i p with q|q|q
 ·rw [List.append_assoc,List.getElem?_append_left (by rw [hl];exact q),List.getElem?_take,if_pos q,if_neg (Nat.ne_of_lt q)]
 ·rw [if_pos q,q,List.append_assoc,List.getElem?_append_right (by rw [hl];exact Nat.le_refl _),hl,Nat.sub_self];rfl
 ·rw [List.getElem?_append_right (by rw [List.length_append,hl];exact q),List.length_append,hl,List.getElem?_drop,if_neg (Nat.ne_of_gt q)]
  show d[p+1+(i - (p+1))]?=_
  rw [Nat.add_sub_cancel' q]
theorem patch_len {d:List UInt8}{p:Nat}{c:UInt8}(h:p<d.length):(patch d p c).length=d.length:=by
 unfold patch
 rw [List.length_append,List.length_append,List.length_take,List.length_drop,List.length_singleton,Nat.min_eq_left (Nat.le_of_lt h)]
 exact Nat.add_sub_of_le h
theorem Sub.patch {d:List UInt8}{o p:Nat}{b:List UInt8}{c:UInt8}(h:Sub d o b)(hp:p<d.length)(h1:o≤p)(h2:p<o+b.length):Sub (Internal.patch d p c) o (b.set (p - o) c):=fun i hi=>by
 rw [List.length_set] at hi
 rw [patch_get hp,List.getElem?_set]
 by_cases e:p - o=i
 ·rw [if_pos e,if_pos (by lia),if_pos (by exact Nat.sub_lt_left_of_lt_add h1 h2)]
 ·rw [if_neg e,if_neg (by lia),h i hi]
theorem Sub.off {d:List UInt8}{o p:Nat}{b:List UInt8}{c:UInt8}(h:Sub d o b)(hp:p<d.length)(h1:p<o∨o+b.length≤p):Sub (Internal.patch d p c) o b:=h.congr fun i a b=>by
 rw [patch_get hp,if_neg (by lia)]
theorem Sub.take {d:List UInt8}{o m:Nat}{b:List UInt8}(h:Sub d o b)(hm:o+b.length≤m):Sub (d.take m) o b:=h.congr fun i a b=>by
 rw [List.getElem?_take,if_pos (by exact Nat.lt_of_lt_of_le b hm)]
theorem Sub.num {d:List UInt8}{o:Nat}{q:List UInt8}(h:Sub d o q)(hq:q.length=4):Internal.num4 d o=numOf q:=by
 have:=h.cut (h.le (by rw [hq];decide))
 rw [hq,show ((4:Nat):Int)=4 from rfl] at this
 unfold Internal.num4
 rw [this]
section
variable {fs:List Font}
theorem head_subs (fs:List Font):Sub (writeB fs) 0 (be 1953784678 4)∧Sub (writeB fs) 4 (be 65536 4)∧Sub (writeB fs) 8 (be fs.length 4):=by
 have h:Sub (writeB fs) 0 (headB fs.length):=by
  have:=Sub.mid [] (headB fs.length) (offB fs.length fs fs.length++dirsB (planOf fs).rows++((planOf fs).ps.map fill).flatten)
  rw [List.nil_append,←List.append_assoc,←List.append_assoc] at this
  exact this
 unfold headB at h
 have h3:=h.right
 have h2:=h.left.right
 have h1:=h.left.left
 rw [List.length_append,be_length,be_length] at h3
 rw [be_length] at h2
 exact ⟨h1,h2,h3⟩
noncomputable abbrev readF (f:Font):Font:=(f.1,items f)
theorem readF_eq {f:Font}(h:FontOk f):FEq (readF f) f:=
 ⟨rfl,(items_length f).trans h.tagsLen,by rw [items_fst];exact tags_nodup f,h.row.nodup,fun p hp=>by
  obtain ⟨y,hy,rfl⟩:=List.mem_map.mp hp
  exact tabGet_at (tags_mem hy)⟩
theorem readF_eqs : ∀{l:List Font},(∀f∈l,FontOk f)→FEqs (l.map readF) l
 | [],_=> .nil
 |f::r,h=> .cons (readF_eq (h f List.mem_cons_self)) (readF_eqs fun g hg=>h g (List.mem_cons_of_mem _ hg))
theorem write_pos (hf: ∀f∈fs,FontOk f)(hz:fs.length≤64):low fs≤(writeB fs).length:=by
 rw [(write_body hf hz).2];exact Nat.le_add_right _ _
theorem low_ge (fs:List Font)(k:Nat):12+4*fs.length≤dirAt fs.length fs k:=Nat.le_add_right _ _
theorem write_run (hf: ∀f∈fs,FontOk f)(h0:0<fs.length)(hz:fs.length≤64){d:List UInt8}(hl:d.length=(writeB fs).length)(hc:isColl d=true)(hv:(([65536,131072]:List Int).any (· ==num4 d 4))=true)(hn:num4 d 8=fs.length)
  {m:Nat}(hm:m≤fs.length) (h1: ∀i,12≤i→i<dirAt fs.length fs m→d[i]?=(writeB fs)[i]?) (h2: ∀i,low fs≤i→d[i]?=(writeB fs)[i]?):
  ∃ds,ds.length=m∧CRun d fs.length ds∧ds.map (dirA d)=((fs.take m).map readF).map fontA:=by
 have hroom:12+4*fs.length≤d.length:=by
  rw [hl]
  exact Nat.le_trans (low_ge fs _) (write_pos hf hz)
 have key: ∀k,k<m→num4 d (12+4*k)=((dirAt fs.length fs k:Nat):Int)∧ ∀f,fs[k]?=some f→ROk d (dirAt fs.length fs k) f.2.length∧dirA d (dirAt fs.length fs k,f.2.length)=fontA (readF f):=by
  intro k hk
  have hle:=dirAt_le hf hz hz k
  have hge:=low_ge fs m
  have hmo:=dirAt_mono fs.length fs (show k+1≤m from hk)
  refine ⟨?_,fun f hfk=>?_⟩
  ·have:=(write_offs (fs:=fs) (k:=k) (by exact Nat.lt_of_lt_of_le hk hm)).congr (e:=d) fun i a b=>h1 i (by exact Nat.le_of_add_right_le a) (by rw [be_length] at b;lia)
   exact this.num4 (Int.natCast_nonneg _) (by lia)
  ·have hg:=low_ge fs k
   refine hideG fun M kM=>?_
   obtain ⟨rs,D,hit⟩:=write_dirIn hf hz hfk hl (fun i a b=>h1 i (by lia) (by exact Nat.lt_of_lt_of_le b hmo)) h2
   have hrl:rs.length=f.2.length:=(rs_len hit).trans (hf f (List.mem_of_getElem? hfk)).tagsLen
   obtain ⟨o1,o2⟩:=D.ok
   refine kM ?_
   clear kM
   have o3:=D.tabs
   rw [hrl] at o1 o3
   refine ⟨o1,?_⟩
   show fontA (verAt d (dirAt fs.length fs k:Nat),tabOf d (recsAt d (dirAt fs.length fs k) f.2.length))=_
   rw [o2,o3,hit]
 refine ⟨(List.range m).map fun k=>(dirAt fs.length fs k,((fs[k]?).map fun f=>f.2.length).getD 0),by rw [List.length_map,List.length_range],⟨hc,hv,hn,h0,hz,hroom,by rw [List.length_map,List.length_range];exact hm,fun k p hp=>?_⟩,?_⟩
 ·obtain ⟨k',hk',rfl⟩:=map_at hp
  have hkm:k<m:=by
   have:=(List.getElem?_eq_some_iff.mp hk').1
   rwa [List.length_range] at this
  rw [List.getElem?_range hkm] at hk'
  cases hk'
  refine hideG fun M kM=>?_
  obtain ⟨a1,a2⟩:=key k hkm
  have e:fs[k]?=some fs[k]:=List.getElem?_eq_getElem _
  obtain ⟨b1,_⟩:=a2 _ e
  refine kM ?_
  clear kM
  have hle:=dirAt_le (n:=fs.length) hf hz hz k
  refine ⟨a1,Nat.le_trans hle (by decide),?_⟩
  rw [e]
  exact b1
 ·refine List.ext_getElem? fun k=>?_
  rw [List.getElem?_map,List.getElem?_map,List.getElem?_map,List.getElem?_map,List.getElem?_take]
  by_cases hk:k<m
  ·rw [if_pos hk,List.getElem?_range hk]
   have e:fs[k]?=some fs[k]:=List.getElem?_eq_getElem _
   show some (dirA d (dirAt fs.length fs k,((fs[k]?).map fun f=>f.2.length).getD 0))=((fs[k]?).map readF).map fontA
   rw [e]
   exact congrArg some ((key k hk).2 _ e).2
  ·rw [if_neg hk,List.getElem?_eq_none (by rw [List.length_range];exact Nat.le_of_not_lt hk)];rfl
theorem isColl_of {d:List UInt8}(h:Sub d 0 (be 1953784678 4))(hl:12≤d.length):isColl d=true:=by
 unfold isColl
 rw [decide_eq_true hl,Bool.true_and,h.num4 (by decide) (by decide)];rfl
theorem len_ge (hf: ∀f∈fs,FontOk f)(h0:0<fs.length)(hz:fs.length≤64){k:Nat}(hk:k<fs.length):dirAt fs.length fs k+28≤low fs∧16≤dirAt fs.length fs k∧low fs≤(writeB fs).length:=by
 have e:fs[k]?=some fs[k]:=List.getElem?_eq_getElem _
 have h1:=dirAt_succ (n:=fs.length) e
 have h2:=dirAt_mono fs.length fs (show k+1≤fs.length from hk)
 have h3:=(hf _ (List.mem_of_getElem? e)).few.1
 have h4:=low_ge fs k
 exact ⟨by unfold low;lia,by lia,write_pos hf hz⟩
theorem write_read (hf: ∀f∈fs,FontOk f)(h0:0<fs.length)(hz:fs.length≤64): ∃ds,CRun (writeB fs) ds.length ds∧ds.map (dirA (writeB fs))=(fs.map readF).map fontA:=by
 refine hideG fun M kM=>?_
 obtain ⟨s1,s2,s3⟩:=head_subs fs
 have hg:=(len_ge hf h0 hz h0)
 obtain ⟨ds,e,R,D⟩:=write_run hf h0 hz rfl (isColl_of s1 (by exact Nat.le_of_ble_eq_true rfl)) (by rw [s2.num4 (by decide) (by decide)];rfl) (s3.num4 (Int.natCast_nonneg _) (by lia)) (Nat.le_refl _) (fun _ _ _=>rfl) fun _ _=>rfl
 refine kM ?_
 clear kM
 rw [List.take_length] at D
 exact ⟨ds,e▸R,D⟩
theorem write_read2 (hf: ∀f∈fs,FontOk f)(h0:0<fs.length)(hz:fs.length≤64): ∃ds,CRun (patch (writeB fs) 5 2) ds.length ds∧ds.map (dirA (patch (writeB fs) 5 2))=(fs.map readF).map fontA:=by
 refine hideG fun M kM=>?_
 obtain ⟨s1,s2,s3⟩:=head_subs fs
 have hg:=(len_ge hf h0 hz h0)
 have h5:5<(writeB fs).length:=by exact place_lt rfl
 obtain ⟨ds,e,R,D⟩:=write_run hf h0 hz (patch_len (c:=2) h5) (isColl_of (s1.off h5 (.inr (by rw [be_length];decide))) (by rw [patch_len h5];exact Nat.le_of_ble_eq_true rfl)) (by rw [(s2.patch h5 (by decide) (by rw [be_length];decide)).num (by rw [List.length_set,be_length])];decide+kernel)
  ((s3.off h5 (.inl (by decide))).num4 (Int.natCast_nonneg _) (by lia)) (Nat.le_refl _) (fun i a _=>by rw [patch_get h5,if_neg (by lia)]) fun i a=>by rw [patch_get h5,if_neg (by lia)]
 refine kM ?_
 clear kM
 rw [List.take_length] at D
 exact ⟨ds,e▸R,D⟩
theorem bad_ttcg (R:List UInt8):CBad ([116,116,99,103]++R):= .no (by
 have:=(Sub.mid [] [116,116,99,103] R).num rfl
 rw [List.nil_append] at this
 unfold isColl
 rw [show num4 ([116,116,99,103]++R) 0=numOf [116,116,99,103] from this,show (numOf [116,116,99,103]==1953784678)=false by decide+kernel,Bool.and_false])
theorem bad_version (hf: ∀f∈fs,FontOk f)(h0:0<fs.length)(hz:fs.length≤64):CBad (patch (writeB fs) 5 3):= .ver (by
 obtain ⟨s1,s2,s3⟩:=head_subs fs
 have hg:=(len_ge hf h0 hz h0)
 rw [(s2.patch (p:=5) (by exact place_lt rfl) (by decide) (by rw [be_length];decide)).num (by rw [List.length_set,be_length])];decide+kernel)
theorem bad_none (W:List UInt8)(h:12≤W.length):CBad (W.take 8++List.replicate 4 0++W.drop 12):= .many (.inl (by
 have:=(Sub.mid (W.take 8) (List.replicate 4 0) (W.drop 12)).num rfl
 rw [List.length_take,Nat.min_eq_left (by exact Nat.le_of_add_left_le h)] at this
 rw [this]
 decide+kernel))
theorem bad_many (hf: ∀f∈fs,FontOk f)(h0:0<fs.length)(hz:fs.length≤3):CBad (patch (writeB fs) 9 1):= .many (.inl (by
 obtain ⟨s1,s2,s3⟩:=head_subs fs
 have hg:=(len_ge hf h0 (Nat.le_trans hz (by decide)) h0)
 rw [(s3.patch (p:=9) (by exact place_lt rfl) (by decide) (by rw [be_length];decide)).num (by rw [List.length_set,be_length])]
 generalize fs.length=n at h0 hz
 have:n=1∨n=2∨n=3:=or13 h0 hz
 rcases this with rfl|rfl|rfl<;>decide+kernel))
theorem bad_font (hf: ∀f∈fs,FontOk f)(hz:fs.length≤64){k:Nat}(hk:k<fs.length):CBad (patch (writeB fs) (dirAt fs.length fs k) 1):=by
 have h0:0<fs.length:=Nat.lt_of_le_of_lt (Nat.zero_le _) hk
 refine hideG fun M kM=>?_
 obtain ⟨s1,s2,s3⟩:=head_subs fs
 obtain ⟨g1,g2,g3⟩:=len_ge hf h0 hz hk
 have hp:dirAt fs.length fs k<(writeB fs).length:=by lia
 have hle:=dirAt_le (n:=fs.length) hf hz hz k
 have hge:=low_ge fs k
 obtain ⟨ds,e,R,D⟩:=write_run hf h0 hz (patch_len (c:=1) hp) (isColl_of (s1.off hp (.inr (by rw [be_length];exact Nat.le_of_add_left_le g2))) (by rw [patch_len hp];exact Nat.le_of_ble_eq_true rfl)) (by rw [(s2.off hp (.inr (by rw [be_length];exact Nat.le_of_add_left_le g2))).num4 (by decide) (by decide)];rfl)
  ((s3.off hp (.inr (by rw [be_length];exact Nat.le_of_add_left_le g2))).num4 (Int.natCast_nonneg _) (by lia)) (Nat.le_of_lt hk) (fun i a b=>by rw [patch_get hp,if_neg (Nat.ne_of_lt b)]) fun i a=>by rw [patch_get hp,if_neg (by lia)]
 have hfk:fs[k]?=some fs[k]:=List.getElem?_eq_getElem _
 have Fo:=hf _ (List.mem_of_getElem? hfk)
 obtain ⟨rs,DI,hit⟩:=write_dirIn hf hz hfk rfl (fun _ _ _=>rfl) fun _ _=>rfl
 refine kM ?_
 clear kM
 have hd:=DI.dir
 rw [dirB_eq] at hd
 unfold dirH at hd
 have h4:=hd.left.left.left
 refine .font R (by rw [e];exact hk) (b:=dirAt fs.length fs k) (m:=0) ?_ (Nat.le_trans hle (by decide)) (.ver ?_)
 ·rw [e]
  exact ((write_offs hk).off hp (.inr (by rw [be_length];lia))).num4 (Int.natCast_nonneg _) (by lia)
 ·have h5:=(h4.patch (c:=1) hp (Nat.le_refl _) (by rw [be_length];lia)).num (by rw [List.length_set,be_length])
  show (versions.any (· ==num4 (patch (writeB fs) (dirAt fs.length fs k) 1) (dirAt fs.length fs k)))=false
  rw [h5,Nat.sub_self]
  rcases ver_in Fo.ver with q|q|q<;>rw [q]<;>decide+kernel
theorem bad_cut (hf: ∀f∈fs,FontOk f)(h0:0<fs.length)(hz:fs.length≤64){m:Nat}(h1:12+4*fs.length≤m)(h2:m<low fs):CBad ((writeB fs).take m):=by
 refine hideG fun M kM=>?_
 obtain ⟨s1,s2,s3⟩:=head_subs fs
 have g3:=write_pos hf hz
 have hlen:((writeB fs).take m).length=m:=by rw [List.length_take];exact Nat.min_eq_left (by lia)
 have hle:=dirAt_le (n:=fs.length) hf hz hz 0
 have ed:dirAt fs.length fs 0=12+4*fs.length:=rfl
 have hfk:fs[0]?=some fs[0]:=List.getElem?_eq_getElem _
 have Fo:=hf _ (List.mem_of_getElem? hfk)
 obtain ⟨rs,DI,hit⟩:=write_dirIn hf hz hfk rfl (fun _ _ _=>rfl) fun _ _=>rfl
 refine kM ?_
 clear kM
 refine .font (n:=fs.length) (ds:= []) ⟨isColl_of (s1.take (by rw [be_length];lia)) (by rw [hlen];exact Nat.le_of_add_right_le h1),by rw [(s2.take (m:=m) (by rw [be_length];lia)).num4 (by decide) (by decide)];rfl,(s3.take (by rw [be_length];exact Nat.le_of_add_right_le h1)).num4 (Int.natCast_nonneg _) (by lia),h0,hz,by rw [hlen];exact h1,Nat.zero_le _,fun k p hp=>by cases hp⟩ h0 (b:=dirAt fs.length fs 0) (m:=rs.length) ?_ (Nat.le_trans hle (by decide)) ?_
 ·exact ((write_offs h0).take (by rw [be_length];lia)).num4 (Int.natCast_nonneg _) (by lia)
 ·have hd:=DI.dir
  rcases Nat.lt_or_ge m (dirAt fs.length fs 0+12) with q|q
  ·exact .short (by rw [hlen];exact q)
  have hh:Sub ((writeB fs).take m) (dirAt fs.length fs 0) (dirH fs[0].1 rs.length):=by
   rw [dirB_eq] at hd
   exact hd.left.take (by rw [dirH_length];exact q)
  have hc:=(DirIn.head hh (ver_bd Fo.ver) DI.few).2
  rcases Nat.lt_or_ge m (dirAt fs.length fs 0+12+16*rs.length) with q2|q2
  ·exact .dir hc (by rw [hlen];exact q2)
  ·refine .tab hc DI.few ?_
   have hr0:rs[0]?=some (rs[0]'DI.pos):=List.getElem?_eq_getElem _
   generalize rs[0]'DI.pos=r at hr0
   have R:=DI.recok r (List.mem_of_getElem? hr0)
   refine hideG fun M kM=>?_
   obtain ⟨p,hp,hlo,_,_⟩:=DI.data r (List.mem_of_getElem? hr0)
   refine kM ?_
   clear kM
   rw [dirB_eq] at hd
   have h5:=hd.right
   have h6:(rs.map rowB)[0]?=some (rowB r):=by rw [List.getElem?_map,hr0];rfl
   have h7:=h5.trans (Sub.flat h6) (by
    rw [rowsB_len fun q hq=>(DI.recok q hq).tag,show (rowB r).length=16 from recB_length R.tag]
    show 0+16≤_
    have:=DI.pos
    exact Nat.le_mul_of_pos_right (0+16) this)
   have h8:Sub (writeB fs) (dirAt fs.length fs 0+12) (recB (recOf r)):=by rw [dirH_length] at h7;exact h7
   have h9:=(h8.take (m:=m) (by rw [recB_length R.tag];have:=DI.pos;lia)).rec R
   refine ⟨recW r (dirAt fs.length fs 0+12),?_,?_⟩
   ·unfold recsAt
    rw [List.getElem?_map,List.getElem?_range DI.pos,Option.map_some,Nat.zero_mul,Nat.add_zero,h9];rfl
   ·show (((writeB fs).take m).length:Int)<r.2.2+(r.2.1.length:Int)
    rw [hlen,hp];lia
end
theorem star_dict {env:Env}{ks:List (Option Expr)}{vs es:List Expr}{pos:Pos}:starEach (.Dict ks vs pos::es) env=(false,eval (.Dict ks vs pos) env)::starEach es env:=by rfl
section
variable {G:Gl}{C:Cx}{lv:List (Option AVal)}{σ:Own}{x:Prop}{Q:AVal→Own→Prop}
theorem Args'.const {pos:Pos}{c:Const}{k:Nat}{p:Pos}{es:List Expr}{Q:List AVal→Own→Prop}(h:Ev G C lv σ (.Constant c k p) (fun v σ₁=>Args' G C lv σ₁ pos es (fun vs=>Q (v::vs)) x) x):Args' G C lv σ pos (.Constant c k p::es) Q x:=Args'.cons h star_const
theorem Args'.dict {pos:Pos}{ks:List (Option Expr)}{vs:List Expr}{p:Pos}{es:List Expr}{Q:List AVal→Own→Prop}(h:Ev G C lv σ (.Dict ks vs p) (fun v σ₁=>Args' G C lv σ₁ pos es (fun vs=>Q (v::vs)) x) x):Args' G C lv σ pos (.Dict ks vs p::es) Q x:=Args'.cons h star_dict
set_option maxHeartbeats 4000000 in
theorem Ex.pairLit {y z:Str}{p p1 p2 p3 p4 tp pos:Pos}{k1 k2 k3 x1:Nat}{i:Int}{b:List UInt8}{Qn:List (Option AVal)→Own→Prop}{Qr:AVal→Own→Prop}(j:Nat)(k:NameKind)(hn:C.env.scope.names[j]?=some (y,k))
  (hk:C.env.kindOf y=some .local∧C.env.locals=C.L∨(C.env.kindOf y=some .cell∧ ∃c,C.env.cells.lookup y=some c∧C.env.locals=C.L))
  (h:Qn (lv.set j (some (.tup [.int i,.dS [(z,.bytes b)]]))) σ)
  (hs:swapsWith (.Tuple [.Constant (.int i) k1 p1,.Dict [some (.Constant (.str z) k2 p3)] [.Constant (.bytes b) k3 p4] p2] x1 tp) (some (.Name y p)) pos.line C.env=pure false) (hd:(y==("__debug__":Str))=false):
  Ex G C lv σ (exec (.Assign [.Name y p] (.Tuple [.Constant (.int i) k1 p1,.Dict [some (.Constant (.str z) k2 p3)] [.Constant (.bytes b) k3 p4] p2] x1 tp) pos) C.env) Qn Qr x:=
 by
 refine @Ex.assign _ _ _ _ _ _ _ _ _ _ _ j _ hn hk ?_ hs hd
 refine Ev.tuple ?_
 refine Args'.const ?_
 refine Ev.int ?_
 refine Args'.dict ?_
 refine Ev.dict1 ?_
 refine Args'.nil ⟨?_,h⟩
 exact Nat.le_of_ble_eq_true rfl
end
noncomputable abbrev loneF :Font:=(65536,[("cmap",[])])
theorem loneF_ok :FontOk loneF:=⟨by decide,.one .cmap,fun p hp=>by rw [List.mem_singleton.mp hp];exact Nat.zero_le _⟩
theorem many_ok : ∀f∈List.replicate 64 loneF,FontOk f:=fun f hf=>by rw [List.eq_of_mem_replicate hf];exact loneF_ok
theorem many_len :(writeB (List.replicate 64 loneF)).length=2060:=by
 refine rwG ((write_body many_ok (by decide)).2 ..) ?_
 have h1:low (List.replicate 64 loneF)=2060:=by decide+kernel
 have h2:(((planOf (List.replicate 64 loneF)).ps.map fill).flatten).length=0:=by decide+kernel
 rw [h1,h2]
noncomputable abbrev loneR :Row:=("cmap",[],296)
theorem lone_dir :dirB (65536,[loneR])=loneT 268:=by decide+kernel
theorem lone_rec :RecOk (recOf loneR):=⟨.cmap,by decide+kernel,by decide+kernel,by decide,by decide,by decide,by decide⟩
theorem lone_split (many:Nat):loneAll many=([116,116,99,102]++be 65536 4)++be many 4++((List.replicate many (be (12+4*many) 4)).flatten++loneT (12+4*many)):=by
 unfold loneAll
 rw [List.append_assoc,List.append_assoc]
theorem lone_cnt (many:Nat)(h:many≤100):num4 (loneAll many) 8=many:=by
 refine rwG (lone_split ..) ?_
 have:=Sub.mid ([116,116,99,102]++be 65536 4) (be many 4) ((List.replicate many (be (12+4*many) 4)).flatten++loneT (12+4*many))
 exact this.num4 (Int.natCast_nonneg _) (by lia)
theorem lone_bad :CBad (loneAll 65):= .many (.inl (by rw [lone_cnt 65 (by decide)];decide))
theorem lone_flat (n:Nat)(b:List UInt8)(hb:b.length=4)(k:Nat)(hk:k≤n):(((List.replicate n b).take k).flatten).length=4*k:=by
 rw [List.take_replicate,Nat.min_eq_left hk,List.length_flatten,List.map_replicate,hb,List.sum_replicate_nat,Nat.mul_comm]
theorem lone_read :CRun (loneAll 64) 64 (List.replicate 64 (268,1))∧dirA (loneAll 64) (268,1)=fontA loneF:=by
 have hlen:(loneAll 64).length=296:=by
  rw [lone_split,List.length_append,List.length_append,List.length_append,List.length_append,be_length,be_length,loneT_length]
  have:=lone_flat 64 (be (12+4*(64:Nat)) 4) (be_length _ _) 64 (Nat.le_refl _)
  rw [List.take_of_length_le (by rw [List.length_replicate];exact Nat.le_refl _)] at this
  rw [this];rfl
 have hpre:(([116,116,99,102]++be 65536 4++be (64:Nat) 4++(List.replicate 64 (be (12+4*(64:Nat)) 4)).flatten):List UInt8).length=268:=by
  have:=lone_flat 64 (be (12+4*(64:Nat)) 4) (be_length _ _) 64 (Nat.le_refl _)
  rw [List.take_of_length_le (by rw [List.length_replicate];exact Nat.le_refl _)] at this
  rw [List.length_append,List.length_append,List.length_append,be_length,be_length,this];rfl
 have hd:Sub (loneAll 64) 268 (dirB (65536,[loneR])):=by
  have:=Sub.mid ([116,116,99,102]++be 65536 4++be (64:Nat) 4++(List.replicate 64 (be (12+4*(64:Nat)) 4)).flatten) (loneT (12+4*(64:Nat))) []
  rw [hpre,List.append_nil] at this
  refine rwG (lone_dir ..) ?_
  exact this
 have D:DirIn (loneAll 64) 268 65536 [loneR] 296:=⟨hd,by decide,Nat.le_refl _,by decide,fun r hr=>by rw [List.mem_singleton.mp hr];exact lone_rec,by simp,by simp,
  fun r hr=>⟨296,by rw [List.mem_singleton.mp hr];rfl,Nat.le_refl _,by rw [List.mem_singleton.mp hr];exact ⟨fun i hi=>(by cases hi),by rw [hlen];exact Nat.le_refl _⟩⟩,
  fun r hr r' hr' hne=>absurd ((List.mem_singleton.mp hr).trans (List.mem_singleton.mp hr').symm) hne,Nat.le_refl _⟩
 obtain ⟨o1,o2⟩:=D.ok
 have o3:=D.tabs
 refine ⟨⟨?_,?_,lone_cnt 64 (by decide),by decide,by decide,by rw [hlen];decide,by rw [List.length_replicate];exact Nat.le_refl _,fun k p hp=>?_⟩,?_⟩
 ·refine isColl_of ?_ (by rw [hlen];decide)
  have:=Sub.mid [] [116,116,99,102] (be 65536 4++be (64:Nat) 4++((List.replicate 64 (be (12+4*(64:Nat)) 4)).flatten++loneT (12+4*(64:Nat))))
  rw [List.nil_append,←ttcf] at this
  refine rwG (lone_split ..) ?_;refine rwGr (ttcf ..) ?_;refine rwG (List.append_assoc ..) ?_;refine rwG (List.append_assoc ..) ?_
  rw [List.append_assoc] at this
  exact this
 ·have:=Sub.mid [116,116,99,102] (be 65536 4) (be (64:Nat) 4++((List.replicate 64 (be (12+4*(64:Nat)) 4)).flatten++loneT (12+4*(64:Nat))))
  refine rwG (lone_split ..) ?_;refine rwG (List.append_assoc (_++_) ..) ?_
  rw [show num4 (([116,116,99,102]++be 65536 4)++(be (64:Nat) 4++((List.replicate 64 (be (12+4*(64:Nat)) 4)).flatten++loneT (12+4*(64:Nat))))) 4=65536 from this.num4 (by decide) (by decide)];rfl
 ·have hk:k<64:=by
   have:=(List.getElem?_eq_some_iff.mp hp).1
   rwa [List.length_replicate] at this
  rw [List.getElem?_replicate,if_pos hk] at hp
  cases hp
  refine ⟨?_,by decide,o1⟩
  have h1:Sub (loneAll 64) 12 (List.replicate 64 (be (12+4*(64:Nat)) 4)).flatten:=by
   have:=Sub.mid ([116,116,99,102]++be 65536 4++be (64:Nat) 4) (List.replicate 64 (be (12+4*(64:Nat)) 4)).flatten (loneT (12+4*(64:Nat)))
   exact this
  have h2:(List.replicate 64 (be (12+4*(64:Nat)) 4))[k]?=some (be (12+4*(64:Nat)) 4):=by rw [List.getElem?_replicate,if_pos hk]
  have h3:=Sub.flat h2
  rw [lone_flat 64 _ (be_length _ _) k (Nat.le_of_lt hk)] at h3
  have h4:=lone_flat 64 (be (12+4*(64:Nat)) 4) (be_length _ _) 64 (Nat.le_refl _)
  rw [List.take_of_length_le (by rw [List.length_replicate];exact Nat.le_refl _)] at h4
  exact (h1.trans h3 (by rw [h4,be_length];lia)).num4 (by decide) (by decide)
 ·show fontA (verAt (loneAll 64) (268:Nat),tabOf (loneAll 64) (recsAt (loneAll 64) 268 1))=_
  rw [o2,show tabOf (loneAll 64) (recsAt (loneAll 64) 268 1)=_ from o3];rfl
theorem fEqs_rep (n:Nat):FEqs (List.replicate n loneF) (List.replicate n loneF):=by
 induction n with
 |zero=>exact .nil
 |succ n ih=>exact .cons ⟨rfl,rfl,by decide,by decide,fun p hp=>by rw [List.mem_singleton.mp hp];rfl⟩ ih
theorem wpN.compare1 {prog:Program}{w:World}{A:Around}{E:Value→Shared→Prop}{s:Shared}{env:Env}{l r:Expr}{op:CmpOp}{pos:Pos}{Q:Value→Shared→Prop}
  (h:wpN (model prog w) A (eval l env) (fun a s₁=>wpAny (model prog w) A (eval r env) (fun b s₂=>wpAny (model prog w) A (compareOp op a b) Q E s₂) E s₁) E s)
  (hm:behindInMarks op r=false):wpN (model prog w) A (eval (.Compare l [op] [r] pos) env) Q E s:=fun Γ p hΓ hc=>by
 simp only [eval_Compare1,markedBehindIn_of_false hm,Sem.wp_bind',Sem.wp_holding,Sem.wp_cmd_standAt,Sem.wp_operate]
 exact Sem.wp_mono _ Γ _ (fun a p₁ s₁ h₁=>Sem.wp_mono _ Γ _ (fun b _ s₂ h₂=>h₂ Γ _ hΓ) (fun _ _ _ h'=>h') _ _ (h₁ Γ p₁ hΓ)) (fun _ _ _ h'=>h') _ _ (h Γ p hΓ hc)
section
variable {G:Gl}{C:Cx}{lv:List (Option AVal)}{σ:Own}{x:Prop}{Q:AVal→Own→Prop}
theorem EvN.cmp {l r:Expr}{op:CmpOp}{pos:Pos}(h:EvN G C lv σ l (fun a σ₁=>Ev G C lv σ₁ r (fun b σ₂=>Cmp G C lv σ₂ op a b (fun bb=>Q (.bool bb)) x) x) x)
  (hm:behindInMarks op r=false:=by rfl):EvN G C lv σ (.Compare l [op] [r] pos) Q x:=fun K J m own s S I O=>by
 refine wpN.compare1 (RunN.seq h S I O (fun K₁ own₁ a σ₁ h₁ tk₁ ca k₁ I₁ O₁ r₁ S₁ q₁=>?_) fun _ _ f=>f) hm
 refine q₁.seq (s:={s with heap:=h₁,toks:=tk₁}) S₁ I₁ O₁ (fun K₂ own₂ b σ₂ h₂ tk₂ cb k₂ I₂ O₂ r₂ S₂ q₂=>?_) fun ev s' f=>⟨f.1,f.2.start rfl⟩
 refine wpAny_mono (q₂ K₂ J m own₂ {s with heap:=h₂,toks:=tk₂} ca cb S₂ I₂ O₂ (r₁.mono k₂) r₂) (fun cv s' p=>?_) fun ev s' f=>⟨f.1,f.2.start rfl⟩
 obtain ⟨K',own',v,σ',h',tk',rfl,k,I',O',rfl,q⟩:=p
 exact ⟨K',own',.bool v,σ',h',tk',rfl,fun a o z=>k _ _ (k₂ _ _ (k₁ _ _ z)),I',O',.bool _,q⟩
theorem rep64 :(List.replicate (64:Int).toNat [fontA loneF]).flatten=(List.replicate 64 loneF).map fontA:=by
 refine rwG (List.map_replicate ..) ?_
 exact List.flatten_replicate_singleton
theorem Bin.mul64 (h:Q (.lst ((List.replicate 64 loneF).map fontA)) σ):Bin G C lv σ .Mult (.lst [fontA loneF]) (.int 64) Q x:=by
 refine Bin.mulLst (List.cons_ne_nil _ _) (by decide) (by decide) (Nat.le_of_ble_eq_true rfl) ?_
 refine rwG (rep64 ..) ?_
 exact h
set_option maxHeartbeats 1000000 in
theorem many_other (hG:G.frag=KF G.w.params)(hrk:6≤C.rk){way:Int}(hw:way=0∨1<way)(h:Q (.bool true) σ):CallN G C lv σ (.ref 478) [.int way] Q x:=by
 refine CallN.intro (ok_law_many_right hG) rfl (Nat.le_trans (by decide) hrk) (len1 fun _=>rfl) ?_
 intro g L'
 refine ExN.step ?_
 refine @Ex.pairLit _ _ _ _ _ _ _ _ _ _ _ _ _ _ _ _ _ _ _ _ _ _ 1 .local ?_ ?_ ?_ ?_ ?_
 ·rfl
 ·exact .inl ⟨rfl,rfl⟩
 rotate_left
 ·rfl
 ·decide
 refine ExN.cons (ExN.ite (Tst.cmpN (i:=0) rfl rfl (Ev.int (Cmp.eq ?_))))
 rcases hw with rfl|hw
 ·refine rwG (if_pos (by decide) ..) ?_
  refine ExN.cons ?_
  refine ExN.ret ?_
  refine EvN.cmp ?_
  refine EvN.call ?_
  refine Ev.built (ns_len hG) rfl ?_
  refine ⟨_,rfl,Keeps.builtin,?_⟩
  refine ArgsN.cons ?_
  refine EvN.call ?_
  refine Ev.glob (ns_write_collection hG) ?_
  refine ⟨_,rfl,Keeps.fk hG rfl,?_⟩
  refine ArgsN.cons ?_
  refine .of ?_
  refine Ev.bin (Ev.list (Args'.name (i:=1) rfl rfl (Args'.nil ⟨Nat.le_of_ble_eq_true rfl,Ev.int (Bin.mul64 ?_)⟩)))
  refine ArgsN.nil (write_collection_spec hG (show 5≤C.rk - 1 from rk_le hrk) many_ok (by decide) (by decide) (ArgsN.nil (.of (CallP.lenB ?_ ?_))))
  ·refine Ev.binI (Ev.binI (Ev.int (Bin.mulL (Bin.add (Cmp.eq ?_)) (by decide) (by decide))))
   refine rwG (many_len ..) ?_
   exact h
  ·rw [many_len];decide
 ·refine rwG (if_neg (by rw [beq_iff_eq];lia) ..) ?_
  refine ExN.nil (ExN.step (Ex.ret (Ev.or (Ev.cmp (Ev.name (i:=0) rfl rfl (Ev.int (Cmp.gt ⟨_,rfl,?_⟩)))))))
  refine rwG (decide_eq_true hw ..) ?_;refine rwG (if_pos rfl ..) ?_
  exact h
end
noncomputable def KB (base:Heap)(s s':Shared):Prop:= ∃h' tk,s'={s with heap:=h',toks:=tk}∧ ∀b o,base.get? b=some o→h'.get? b=some o
theorem KB.start {base:Heap}{s s':Shared}{h:Heap}{tk:Nat}(k:KB base {s with heap:=h,toks:=tk} s'):KB base s s':=by
 refine hideG fun M kM=>?_
 obtain ⟨h',tk',e,r⟩:=k
 refine kM ?_
 clear kM
 exact ⟨h',tk',e,r⟩
section
variable {G:Gl}{C:Cx}{lv:List (Option AVal)}{σ:Own}{p:Program}{loose:List Str}{mean:ExcName→Option Value}
theorem base_kept {K J:Kept}{m:Str→Option Value}{own:Led}{h:Heap}(S:Sit G C lv K J m)(I:Inv K J own C.L m h): ∀b o,C.base.get? b=some o→h.get? b=some o:=fun b o e=>(S.fr I).keep _ _ (S.below.stays _ _ e)
theorem base_out {K J:Kept}{m:Str→Option Value}{own:Led}{h:Heap}(S:Sit G C lv K J m)(I:Inv K J own C.L m h){b:Addr}{o:Obj}(e:C.base.get? b=some o):b∉(C.fenv::C.outer).filterMap (·.frame):=fun hm=>by
 have hnew:C.base.get? C.L=none:=by
  cases hq:C.base.get? C.L with
  |none=>rfl
  |some o=>exact absurd (Nat.lt_of_lt_of_le (Heap.lt_size (S.below.stays C.L o hq)) S.above) (Nat.lt_irrefl _)
 have fr:h.FunFrames C.base (C.fenv::C.outer):= .cons (by rw [S.hke];decide) S.hf I.ns hnew (S.below.frames.of_keeps fun b o e _=>⟨o,(S.fr I).keep b o e,rfl⟩)
 rw [(fr.mem hm).1] at e;cases e
noncomputable def EvF (G:Gl)(C:Cx)(lv:List (Option AVal))(σ:Own)(t:Sem Value):Prop:=
 ∀K J m own s,Sit G C lv K J m→Inv K J own C.L m s.heap→Owns G.w.params K σ own→wpAny (model G.prog G.w) C.A t (fun v s'=>v= .bool true∧KB C.base s s') (fun _ _=>False) s
noncomputable def CallF (G:Gl)(C:Cx)(lv:List (Option AVal))(σ:Own)(f:Value)(vs:List AVal):Prop:=
 ∀K J m own s cvs,Sit G C lv K J m→Inv K J own C.L m s.heap→Owns G.w.params K σ own→VRels G.w.params K vs cvs→wpAny (model G.prog G.w) C.A (call f cvs) (fun v s'=>v= .bool true∧KB C.base s s') (fun _ _=>False) s
theorem EvF.or {e₁ e₂:Expr}{pos:Pos}(h:Ev G C lv σ e₁ (fun v σ₁=>v= .bool false∧EvF G C lv σ₁ (eval e₂ C.env)) False):EvF G C lv σ (eval (.BoolOp .Or [e₁,e₂] pos) C.env):=fun K J m own s S I O=>by
 refine BoolOp_or (h.seq S I O (fun K₁ own₁ v σ₁ h₁ tk₁ cv k₁ I₁ O₁ r₁ S₁ q₁=>?_) fun _ _ f=>f.1)
 obtain ⟨rfl,q⟩:=q₁
 cases r₁
 exact wpAny_truthy_bool (BoolOp_one (wpAny_mono (q K₁ J m own₁ _ S₁ I₁ O₁) (fun v s' r=>⟨r.1,r.2.start⟩) fun _ _ f=>f))
theorem EvF.and {e₁ e₂:Expr}{pos:Pos}(h:Ev G C lv σ e₁ (fun v σ₁=>v= .bool true∧EvF G C lv σ₁ (eval e₂ C.env)) False):EvF G C lv σ (eval (.BoolOp .And [e₁,e₂] pos) C.env):=fun K J m own s S I O=>by
 refine BoolOp_and (h.seq S I O (fun K₁ own₁ v σ₁ h₁ tk₁ cv k₁ I₁ O₁ r₁ S₁ q₁=>?_) fun _ _ f=>f.1)
 obtain ⟨rfl,q⟩:=q₁
 cases r₁
 exact wpAny_truthy_bool (BoolOp_one (wpAny_mono (q K₁ J m own₁ _ S₁ I₁ O₁) (fun v s' r=>⟨r.1,r.2.start⟩) fun _ _ f=>f))
theorem EvF.call {func:Expr}{args:List Expr}{pos:Pos}(h:Ev G C lv σ func (fun fv σ₁=> ∃f,fv= .cst f∧Keeps G f∧Args' G C lv σ₁ pos args (fun vs σ₂=>CallF G C lv σ₂ f vs) False) False)
  (he:eval (.Call func args [] pos) C.env=(do callWith pos (←eval func C.env) [] (backTo pos (starEach args C.env)) (backToKw pos (keywordEach [] C.env))):=by rfl)
  (hplain:(backTo pos (starEach args C.env)).all (fun x=>!x.1)=true:=by rfl):EvF G C lv σ (eval (.Call func args [] pos) C.env):=fun K J m own s S I O=>by
 refine Call_ (h.seq S I O (fun K₁ own₁ v σ₁ h₁ tk₁ cv k₁ I₁ O₁ r₁ S₁ q₁=>?_) fun _ _ f=>f.1) he
 obtain ⟨f,rfl,hkp,q⟩:=q₁
 cases r₁
 refine callWith_all hkp (q.seq (s:={s with heap:=h₁,toks:=tk₁}) S₁ I₁ O₁ (fun K₂ own₂ vs σ₂ h₂ tk₂ cvs k₂ I₂ O₂ r₂ S₂ q₂=>?_) fun ev s' f=>f.1) hplain
 refine ⟨S₂.glo.frag.keeps (S₂.fr I₂).keep,?_⟩
 exact wpAny_mono (q₂ K₂ J m own₂ {s with heap:=h₂,toks:=tk₂} cvs S₂ I₂ O₂ r₂) (fun cv s' r=>⟨r.1,r.2.start⟩) fun _ _ f=>f
theorem refusedF (hG:G.frag=KF G.w.params)(hXb:G.frag.In C.base)(hTb:Top p loose mean G.mg G.mb C.base)(hD:KtsDicts (C.outer.filterMap (·.frame)) C.h₀)(hrk:1≤C.rk){deed:Value}{w:AVal}(hd:Keeps G deed)
  (hdeed: ∀g L',CallP G ((D_law_is_refused G).cx C g L') [some (.cst deed),some w,none] [] deed [w] (fun _ _=>False) True):CallF G C lv σ (.ref 464) [.cst deed,w]:=fun K J m own s cvs S I O r=>by
 refine wpAny_mono (refused_core hG hXb hTb hD hrk hd hdeed K _ m s cvs (S.monoJ fun _ _=> .inl) I.stow r) (fun cv s' q=>?_) fun _ _ f=>f.elim
 obtain ⟨h',tk,up,kp⟩:=q
 exact ⟨rfl,h',tk,rfl,fun b o e=>kp b o (base_kept S I b o e) (base_out S I e)⟩
noncomputable def ExFP (G:Gl)(C:Cx)(lv:List (Option AVal))(σ:Own)(t:Sem Flow):Prop:=
 ∀K J m own s,Sit G C lv K J m→Inv K J own C.L m s.heap→Owns G.w.params K σ own→wpAny (model G.prog G.w) C.A t (fun f s'=>f= .ret (.bool true)∧KB C.base s s') (fun _ _=>False) s
theorem ExFP.cons {st:Stmt}{rest:List Stmt}(h:Ex G C lv σ (exec st C.env) (fun lv₁ σ₁=>ExFP G C lv₁ σ₁ (execs rest C.env)) (fun _ _=>False) False):ExFP G C lv σ (execs (st::rest) C.env):=fun K J m own s S I O=>by
 refine wpAny_execs_cons (RunS.seq h S I O (fun K₁ J₁ own₁ lv₁ σ₁ m₁ h₁ tk₁ f k₁ j₁ S₁ I₁ O₁ q₁=>?_) fun _ _ f=>f.1)
 rcases q₁ with ⟨rfl,q⟩|⟨cv,v,rfl,r,q⟩
 ·exact wpAny_mono (q K₁ J₁ m₁ own₁ _ S₁ I₁ O₁) (fun f s' r=>⟨r.1,r.2.start⟩) fun _ _ f=>f
 ·exact q.elim
theorem ExFP.ret {e:Expr}{pos:Pos}{rest:List Stmt}(h:EvF G C lv σ (eval e C.env)):ExFP G C lv σ (execs (.Return (some e) pos::rest) C.env):=fun K J m own s S I O=>
 wpAny_execs_cons (wpAny_Return_some (wpAny_mono (h K J m own s S I O) (fun v s' r=>⟨by rw [r.1],r.2⟩) fun _ _ f=>f))
theorem KtsDicts.of_frame {K J:Kept}{m:Str→Option Value}{own:Led}{s:Shared}{g:Heap}(S:Sit G C lv K J m)(I:Inv K J own C.L m s.heap)(hout:C.outer= [])(hg: ∀a o,s.heap.get? a=some o→a∉own.map (·.1)→g.get? a=some o):KtsDicts ((C.fenv::C.outer).filterMap (·.frame)) g:=by
 intro b hb
 rw [List.filterMap_cons,S.hf,hout,List.filterMap_nil] at hb
 refine rwG (List.mem_singleton.mp hb ..) ?_
 refine hideG fun M kM=>?_
 obtain ⟨o,es,n,ho,hd,_⟩:=I.ns
 refine kM ?_
 clear kM
 refine ⟨o,es,n,hg _ _ ho fun q=>?_,hd⟩
 obtain ⟨p,hp,e⟩:=List.mem_map.mp q
 exact I.oL p hp e
theorem CallF.introP {f:Addr}{D:DefAt G f}{ps:List Str}(ok:D.Ok ps){vs:List AVal}(hn:vs.length=ps.length)(hrk:1≤C.rk)(hout:C.outer= [])
  (hb: ∀cvs:List Value,cvs.length=vs.length→bindArgs D.fn ⟨cvs,[]⟩=pure (ps.zip cvs))
  (h: ∀g L',KtsDicts ((C.fenv::C.outer).filterMap (·.frame)) g→ExFP G (D.cx C g L') (vs.map some++List.replicate (D.scope.names.length - vs.length) none) [] (execs D.body (envOfC D.qual D.scope L' f D.cdv))):
  CallF G C lv σ (.ref f) vs:=fun K J m own s cvs S I O r=>by
 have S1:=S.monoJ (J':=fun a o=>J a o∨(a,o)∈own) fun _ _=> .inl
 have I1:=I.stow
 refine wpAny_call (CodeP.enter ok hn hrk (fun cvs A s Q E X hl q=>by rw [hb cvs hl];exact wpAny_pure q) K _ m [] s cvs _ S1 I1 .nil r ?_)
 intro g L' J' m' h₁ tk hg1 hg2 BG S' I'
 have hDg:=KtsDicts.of_frame S1 I1 hout hg2
 refine wpAny_mono (h g L' hDg K J' m' [] {s with heap:=h₁,toks:=tk} S' I' .nil) (fun f s' r=>?_) fun _ _ f=>f.elim
 obtain ⟨rfl,r⟩:=r
 exact ⟨rfl,r.start⟩
set_option maxHeartbeats 2000000 in
theorem many_one (hG:G.frag=KF G.w.params)(hP:ProgOk G.prog)(hXb:G.frag.In C.base)(hTb:Top p loose mean G.mg G.mb C.base)(hout:C.outer= [])(hrk:12≤C.rk):CallF G C lv σ (.ref 478) [.int 1]:=by
 refine CallF.introP (ok_law_many_right hG) rfl (Nat.le_trans (by decide) hrk) hout (len1 fun _=>rfl) ?_
 intro g L' hDg
 refine ExFP.cons ?_
 refine @Ex.pairLit _ _ _ _ _ _ _ _ _ _ _ _ _ _ _ _ _ _ _ _ _ _ 1 .local ?_ ?_ ?_ ?_ ?_
 ·rfl
 ·exact .inl ⟨rfl,rfl⟩
 rotate_left
 ·rfl
 ·decide
 refine ExFP.cons (Ex.ite (Tst.cmpN (i:=0) rfl rfl (Ev.int (Cmp.eq ?_))))
 refine rwG (if_neg (by decide) ..) ?_
 refine Ex.nil ?_
 refine ExFP.ret ?_
 refine EvF.or (Ev.cmp (Ev.name (i:=0) rfl rfl (Ev.int (Cmp.gt ⟨rfl,?_⟩))))
 refine EvF.and (Ev.cmp ?_)
 refine Ev.callG (ns_read_collection hG) (.fk hG rfl) (Args'.cons ?_)
 refine Ev.callG (ns_law_lone hG) (.fk hG rfl) (Args'.int (Args'.nil ?_))
 refine law_lone_spec hG (show 2≤C.rk - 1 from rk_le hrk) (many:=64) (by decide) (by decide) (Args'.nil ?_)
 obtain ⟨R,D⟩:=lone_read
 refine read_collection_spec hG hP (show 7≤C.rk - 1 from rk_le hrk) (by decide+kernel) (.inl ⟨List.replicate 64 (268,1),by rw [List.length_replicate];exact R,?_⟩)
 have e:(List.replicate 64 ((268,1):Dir)).map (dirA (loneAll 64))=(List.replicate 64 loneF).map fontA:=by rw [List.map_replicate,List.map_replicate,D]
 refine rwG (e ..) ?_
 refine Ev.bin (Ev.list (Args'.name (i:=1) rfl rfl (Args'.nil ⟨Nat.le_of_ble_eq_true rfl,Ev.int (Bin.mul64 ?_)⟩)))
 refine Cmp.eqFonts (fEqs_rep 64) ⟨rfl,?_⟩
 refine EvF.call (Ev.glob (ns_law_is_refused hG) ⟨_,rfl,Keeps.fk hG rfl,Args'.cons (Ev.glob (ns_read_collection hG) (Args'.cons ?_))⟩)
 refine Ev.callG (ns_law_lone hG) (.fk hG rfl) (Args'.int (Args'.nil ?_))
 refine law_lone_spec hG (show 2≤C.rk - 1 from rk_le hrk) (many:=65) (by decide) (by decide) (Args'.nil ?_)
 refine refusedF (C:=(D_law_many_right G).cx C g L') hG hXb hTb hDg (show 1≤C.rk - 1 from rk_le hrk) (Keeps.fk hG rfl) fun g' L''=>?_
 exact read_collection_spec hG hP (show 7≤C.rk - 1 - 1 from by omega) (by decide+kernel) (.inr ⟨trivial,lone_bad⟩)
end
noncomputable abbrev topCx (qual:Str)(scope:Scope)(f:Addr)(cdv:Value)(h₀:Heap)(L':Addr):Cx:=
 {A:=callerA.deeper (envOfC qual scope L' f cdv),env:=envOfC qual scope L' f cdv,fenv:=envOfC qual scope L' f cdv,outer:= [],A₀:=callerA,base:=h₀,h₀:=h₀,L:=L',rk:=40,cells:=(cellsFrom (L'+1) scope.names []).map (·.2)}
theorem patch_cut (d:List UInt8)(k:Nat)(c:UInt8):cut d none (some (k:Int))++ [c]++cut d (some ((k:Int)+1)) none=patch d k c:=by
 rw [cut_pre,show (k:Int)+1=((k+1:Nat):Int) from rfl,cut_suf];rfl
theorem write_len {fs:List Font}(hf: ∀f∈fs,FontOk f)(hz:fs.length≤3):(writeB fs).length≤200000:=by
 refine rwG ((write_body hf (Nat.le_trans hz (by decide))).2 ..) ?_
 have h1:=dirAt_le (n:=fs.length) hf (Nat.le_trans hz (by decide)) (Nat.le_trans hz (by decide)) fs.length
 have h2:=body_leN (plan_short (low fs:Int) fs ⟨[],[]⟩ hf (fun p hp=>absurd hp List.not_mem_nil))
 have h3:=plan_ps_len (low fs:Int) fs ⟨[],[]⟩
 change (planOf fs).ps.length≤0+3*fs.length at h3
 change ((planOf fs).ps.map fill).flatten.length≤(planOf fs).ps.length*1003 at h2
 unfold low
 lia
noncomputable def hurts (fs:List Font)(k:Nat):List (List UInt8):= [[116,116,99,103]++(writeB fs).drop 4,patch (writeB fs) 5 3,(writeB fs).take 8++List.replicate 4 0++(writeB fs).drop 12,patch (writeB fs) 9 1,patch (writeB fs) (dirAt fs.length fs k) 1]
noncomputable def cuts (fs:List Font)(k:Nat):List (List UInt8):= [[],(writeB fs).take 11,(writeB fs).take 15,(writeB fs).take (dirAt fs.length fs k+11),(writeB fs).take (dirAt fs.length fs k+27)]
section
variable {fs:List Font}
theorem patch_le (d:List UInt8)(p:Nat)(c:UInt8):(patch d p c).length≤d.length+1:=by
 unfold patch
 have e:=congrArg List.length (List.take_append_drop p d)
 rw [List.length_append] at e
 rw [List.length_append,List.length_append,List.length_singleton,Nat.add_right_comm,←e]
 exact Nat.add_le_add_right (Nat.add_le_add_left (List.drop_sublist_drop_left d (Nat.le_succ p)).length_le _) 1
theorem hurts_bad (hf: ∀f∈fs,FontOk f)(h0:0<fs.length)(hz:fs.length≤3){k:Nat}(hk:k<fs.length): ∀b∈hurts fs k,CBad b∧b.length≤16777216:=by
 have hl:=write_len hf hz
 have hz':fs.length≤64:=Nat.le_trans hz (by decide)
 have hg:=len_ge hf h0 hz' hk
 intro b hb
 unfold hurts at hb
 simp only [List.mem_cons,List.not_mem_nil,or_false] at hb
 rcases hb with rfl|rfl|rfl|rfl|rfl
 ·exact ⟨bad_ttcg _,by rw [List.length_append,List.length_drop];show 4+_≤_;lia⟩
 ·exact ⟨bad_version hf h0 hz',Nat.le_trans (patch_le _ _ _) (by lia)⟩
 ·exact ⟨bad_none _ (by lia),by rw [List.length_append,List.length_append,List.length_take,List.length_drop,List.length_replicate];lia⟩
 ·exact ⟨bad_many hf h0 hz,Nat.le_trans (patch_le _ _ _) (by lia)⟩
 ·exact ⟨bad_font hf hz' hk,Nat.le_trans (patch_le _ _ _) (by lia)⟩
theorem cuts_bad (hf: ∀f∈fs,FontOk f)(h0:0<fs.length)(hz:fs.length≤3){k:Nat}(hk:k<fs.length): ∀b∈cuts fs k,CBad b∧b.length≤16777216∧isColl b=decide (12≤b.length):=by
 have hl:=write_len hf hz
 have hz':fs.length≤64:=Nat.le_trans hz (by decide)
 obtain ⟨g1,g2,g3⟩:=len_ge hf h0 hz' hk
 obtain ⟨s1,s2,s3⟩:=head_subs fs
 have hge:=low_ge fs k
 have ht: ∀m,((writeB fs).take m).length≤16777216:=fun m=>by rw [List.length_take];exact Nat.le_trans (Nat.min_le_right _ _) (by lia)
 have hshort: ∀b:List UInt8,b.length<12→CBad b∧isColl b=decide (12≤b.length):=fun b hb=>by
  have e:isColl b=false:=by
   unfold isColl
   rw [decide_eq_false (by lia),Bool.false_and]
  exact ⟨.no e,by rw [e,decide_eq_false (by lia)]⟩
 have hlong: ∀m,12≤m→m≤(writeB fs).length→isColl ((writeB fs).take m)=decide (12≤((writeB fs).take m).length):=fun m h1 h2=>by
  have e:((writeB fs).take m).length=m:=by rw [List.length_take];exact Nat.min_eq_left h2
  rw [isColl_of (s1.take (by rw [be_length];lia)) (by rw [e];exact h1),e,decide_eq_true h1]
 intro b hb
 unfold cuts at hb
 simp only [List.mem_cons,List.not_mem_nil,or_false] at hb
 rcases hb with rfl|rfl|rfl|rfl|rfl
 ·exact ⟨(hshort [] (by decide)).1,Nat.zero_le _,(hshort [] (by decide)).2⟩
 ·have:=hshort ((writeB fs).take 11) (by rw [List.length_take];lia)
  exact ⟨this.1,ht _,this.2⟩
 ·refine ⟨.many (.inr ?_),ht _,hlong 15 (by decide) (by lia)⟩
  have e:((writeB fs).take 15).length=15:=by rw [List.length_take];lia
  refine rwG (e ..) ?_;refine rwG ((s3.take (m:=15) (by rw [be_length];decide)).num4 (Int.natCast_nonneg _) (by lia) ..) ?_
  lia
 ·exact ⟨bad_cut hf h0 hz' (by lia) (by lia),ht _,hlong _ (by lia) (by lia)⟩
 ·exact ⟨bad_cut hf h0 hz' (by lia) (by lia),ht _,hlong _ (by lia) (by lia)⟩
end
section
variable {G:Gl}{C:Cx}{lv:List (Option AVal)}{σ:Own}{p:Program}{loose:List Str}{mean:ExcName→Option Value}
noncomputable def ExFN (G:Gl)(C:Cx)(lv:List (Option AVal))(σ:Own)(t:Sem Flow):Prop:=
 ∀K J m own s,Sit G C lv K J m→Inv K J own C.L m s.heap→Owns G.w.params K σ own→wpN (model G.prog G.w) C.A t (fun f s'=>f= .ret (.bool true)∧KB C.base s s') (fun _ _=>False) s
noncomputable def CallFN (G:Gl)(C:Cx)(lv:List (Option AVal))(σ:Own)(f:Value)(vs:List AVal):Prop:=
 ∀K J m own s cvs,Sit G C lv K J m→Inv K J own C.L m s.heap→Owns G.w.params K σ own→VRels G.w.params K vs cvs→wpN (model G.prog G.w) C.A (call f cvs) (fun v s'=>v= .bool true∧KB C.base s s') (fun _ _=>False) s
theorem ExFN.cons {st:Stmt}{rest:List Stmt}(h:ExN G C lv σ (exec st C.env) (fun lv₁ σ₁=>ExFN G C lv₁ σ₁ (execs rest C.env)) (fun _ _=>False) False):ExFN G C lv σ (execs (st::rest) C.env):=fun K J m own s S I O=>by
 refine wpN.execsCons (RunSN.seq h S I O (fun K₁ J₁ own₁ lv₁ σ₁ m₁ h₁ tk₁ f k₁ j₁ S₁ I₁ O₁ q₁=>?_) fun _ _ f=>f.1)
 rcases q₁ with ⟨rfl,q⟩|⟨cv,v,rfl,r,q⟩
 ·exact (q K₁ J₁ m₁ own₁ _ S₁ I₁ O₁).mono (fun f s' r=>⟨r.1,r.2.start⟩) fun _ _ f=>f
 ·exact q.elim
theorem ExFN.step {st:Stmt}{rest:List Stmt}(h:Ex G C lv σ (exec st C.env) (fun lv₁ σ₁=>ExFN G C lv₁ σ₁ (execs rest C.env)) (fun _ _=>False) False):ExFN G C lv σ (execs (st::rest) C.env):= .cons (RunSN.of h)
theorem ExFN.retCall {func:Expr}{args:List Expr}{pos rpos:Pos}{rest:List Stmt}(h:Ev G C lv σ func (fun fv σ₁=> ∃f,fv= .cst f∧Keeps G f∧ArgsN G C lv σ₁ pos args (fun vs σ₂=>CallFN G C lv σ₂ f vs) False) False)
  (he:eval (.Call func args [] pos) C.env=(do callWith pos (←eval func C.env) [] (backTo pos (starEach args C.env)) (backToKw pos (keywordEach [] C.env))):=by rfl)
  (hplain:(backTo pos (starEach args C.env)).all (fun x=>!x.1)=true:=by rfl):ExFN G C lv σ (execs (.Return (some (.Call func args [] pos)) rpos::rest) C.env):=fun K J m own s S I O=>by
 refine wpN.execsCons (wpN.returnSome ?_)
 refine rwG (he ..) ?_
 refine .seq (h.seq S I O (fun K₁ own₁ v σ₁ h₁ tk₁ cv k₁ I₁ O₁ r₁ S₁ q₁=>?_) fun _ _ f=>f.1)
 obtain ⟨f,rfl,hkp,q⟩:=q₁
 cases r₁
 refine wpN.callWith hplain hkp (RunN.seq q (s:={s with heap:=h₁,toks:=tk₁}) S₁ I₁ O₁ (fun K₂ own₂ vs σ₂ h₂ tk₂ cvs k₂ I₂ O₂ r₂ S₂ q₂=>?_) fun ev s' f=>f.1)
 refine ⟨S₂.glo.frag.keeps (S₂.fr I₂).keep,?_⟩
 exact (q₂ K₂ J m own₂ {s with heap:=h₂,toks:=tk₂} cvs S₂ I₂ O₂ r₂).mono (fun v s' r=>⟨by rw [r.1],r.2.start⟩) fun _ _ f=>f
theorem CallFN.ofN {f:Value}{vs:List AVal}(h:CallN G C lv σ f vs (fun v _=>v= .bool true) False):CallFN G C lv σ f vs:=fun K J m own s cvs S I O r=>by
 refine (h K J m own s cvs S I O r).mono (fun v s' q=>?_) fun _ _ f=>f.1
 obtain ⟨K',own',b,σ',h',tk',rfl,hk,I',O',r',rfl⟩:=q
 cases r'
 exact ⟨rfl,h',tk',rfl,base_kept (S.mono hk) I'⟩
theorem CallFN.ofF {f:Value}{vs:List AVal}(h:CallF G C lv σ f vs):CallFN G C lv σ f vs:=fun K J m own s cvs S I O r=> .of (h K J m own s cvs S I O r)
end
noncomputable abbrev lawCx (G:Gl)(h₀:Heap)(L':Addr):Cx:=topCx (D_law G).qual (D_law G).scope 483 (D_law G).cdv h₀ L'
section
variable {G:Gl}{p:Program}{loose:List Str}{mean:ExcName→Option Value}
theorem rep65 (v:AVal):(List.replicate (65:Int).toNat [v]).flatten=List.replicate 65 v:=List.flatten_replicate_singleton
noncomputable def lv28 (zs:List Int)(fs:List Font)(a:Addr)(n:Nat)(t:Nat→Option AVal):List (Option AVal):= [some (.lsx (zs.map .int)),some (.ref a),some (.lst (fs.map fontA)),some (.bytes (writeB fs)),some (.int (n:Nat)),t 5,t 6,none,none,none,none,none,none,none,none,none,none,none,none]
noncomputable def Ph28 (zs:List Int)(fs:List Font)(a:Addr)(n:Nat)(n2 c:Int)(_:Nat)(lv:List (Option AVal))(σ':Own):Prop:=At (lv28 zs fs a n) [(a,penObj n2 (c+1))] lv σ'
set_option maxHeartbeats 4000000 in
theorem law_walk (hG:G.frag=KF G.w.params)(hP:ProgOk G.prog){h₀:Heap}{L':Addr}(hXb:G.frag.In h₀)(hTb:Top p loose mean G.mg G.mb h₀){zs:List Int}(hz:zs.length≤63):
  ExFN G (lawCx G h₀ L') ([AVal.lsx (zs.map .int)].map some++List.replicate ((D_law G).scope.names.length - [AVal.lsx (zs.map .int)].length) none) [] (execs (D_law G).body (envOfC (D_law G).qual (D_law G).scope L' 483 (D_law G).cdv)):=by
 have rk: ∀n,n≤40→n≤(lawCx G h₀ L').rk:=fun n h=>h
 refine ExFN.step (Ex.assignL 1 rfl (Ev.callG (ns_law_pen hG) (.fk hG rfl) (Args'.name (i:=0) rfl rfl (Args'.nil (law_pen_spec hG (rk 1 (by decide)) hz fun a=>?_)))))
 refine ExFN.step (Ex.assignL 2 rfl (Ev.callG (ns_law_fonts hG) (.fk hG rfl) (Args'.name (i:=1) rfl rfl (Args'.nil ?_))))
 refine law_fonts_spec (σ:= [(a,penObj ((zs.take 16).foldl penStep 0) 0)]) hG (rk 2 (by decide)) (j:=0) rfl fun fs n c LF hc0 hc1=>?_
 show ExFN G _ _ [(a,penObj n c)] _
 have hf:=LF.ok
 have h0:0<fs.length:=LF.pos
 have h3:=LF.few
 have h64:fs.length≤64:=Nat.le_trans h3 (by decide)
 have hWl:=write_len hf h3
 have hW:(writeB fs).length≤16777216:=Nat.le_trans hWl (by decide)
 have hfl:(fs.map fontA).length=fs.length:=List.length_map ..
 have hflen:fs.length≤1099511627776:=Nat.le_trans h3 (by decide)
 refine ExFN.cons (ExN.assign 3 rfl (.inl ⟨rfl,rfl⟩) (EvN.call (Ev.glob (ns_write_collection hG) ⟨_,rfl,Keeps.fk hG rfl,ArgsN.cons (.of (Ev.name (i:=2) rfl rfl (ArgsN.nil ?_)))⟩)))
 refine write_collection_spec hG (rk 5 (by decide)) hf h0 h64 ?_
 obtain ⟨ds,R,D⟩:=write_read hf h0 h64
 obtain ⟨ds2,R2,D2⟩:=write_read2 hf h0 h64
 have hic:isColl (writeB fs)=true:=R.is
 refine ExFN.step (Ex.ite (Tst.boolop (All.or (Tst.cmpN (i:=3) rfl rfl (Ev.callG (ns_law_whole hG) (.fk hG rfl) (Args'.name (i:=2) rfl rfl (Args'.nil ?_)))))))
 refine law_whole_spec hG (rk 2 (by decide)) hf h64 (Cmp.neB ?_)
 refine rwG (bne_self_eq_false ..) ?_;refine rwG (if_neg (by decide) ..) ?_
 refine All.or (Tst.cmp (Ev.callG (ns_read_collection hG) (.fk hG rfl) (Args'.name (i:=3) rfl rfl (Args'.nil ?_))))
 refine read_collection_spec hG hP (rk 7 (by decide)) hW (.inl ⟨ds,R,?_⟩)
 refine rwG (D ..) ?_
 refine Ev.name (i:=2) rfl rfl (Cmp.neFonts (readF_eqs hf) ?_)
 refine rwG (if_neg (by decide) ..) ?_
 refine All.or (Tst.not (Tst.val (Ev.callG (ns_is_collection hG) (.fk hG rfl) (Args'.name (i:=3) rfl rfl (Args'.nil ?_)))))
 refine is_collection_spec hG (rk 4 (by decide)) hW ⟨_,rfl,?_⟩
 show if (!(isColl (writeB fs)))=true then _ else _
 refine rwG (hic ..) ?_;refine rwG (if_neg (by decide) ..) ?_
 refine All.or_nil ?_
 refine rwG (if_neg (by decide) ..) ?_
 refine Ex.nil ?_
 have hcl:=fun lo hi=>cut_length_le (writeB fs) lo hi
 refine ExFN.step (Ex.ite (Tst.boolop (All.or (Tst.cmp (Ev.callG (ns_read_collection hG) (.fk hG rfl) (Args'.cons ?_))))))
 refine Ev.bin (Ev.bin (Ev.sliceBN (i:=3) rfl rfl hW (EvP.none (EvP.int ?_))))
 refine Ev.bytes (Bin.addB ?_ (by have:=hcl none (some 5);show _+1≤_;lia))
 refine Ev.sliceBN (i:=3) rfl rfl hW (EvP.int (EvP.none (Bin.addB ?_ (by have:=hcl none (some 5);have:=hcl (some 6) none;rw [List.length_append];show _+1+_≤_;lia))))
 have e5: ∀x:UInt8,cut (writeB fs) none (some 5)++ [x]++cut (writeB fs) (some 6) none=patch (writeB fs) 5 x:=fun x=>patch_cut (writeB fs) 5 x
 refine rwG (e5 ..) ?_
 refine Args'.nil (read_collection_spec hG hP (rk 7 (by decide)) (Nat.le_trans (patch_le _ _ _) (by lia)) (.inl ⟨ds2,R2,?_⟩))
 refine rwG (D2 ..) ?_
 refine Ev.name (i:=2) rfl rfl (Cmp.neFonts (readF_eqs hf) ?_)
 refine rwG (if_neg (by decide) ..) ?_
 refine All.or (Tst.not (Tst.val (Ev.callG (ns_law_is_refused hG) (.fk hG rfl) (Args'.cons (Ev.glob (ns_write_collection hG) (Args'.cons (Ev.list (Args'.nil ⟨Nat.le_of_ble_eq_true rfl,Args'.nil ?_⟩))))))))
 refine refused_spec hG hXb hTb rfl (rk 1 (by decide)) (Keeps.fk hG rfl) (fun g L''=>write_refused hG hP (show 2≤40 - 1 by decide) trivial (.inl rfl)) ⟨_,rfl,?_⟩
 refine rwG (if_neg (by decide) ..) ?_
 refine All.or_nil ?_
 refine rwG (if_neg (by decide) ..) ?_
 refine Ex.nil ?_
 obtain ⟨d0,d1⟩:=drawD_in n c (many:=(fs.length:Int)) (by lia)
 obtain ⟨k,hk⟩: ∃k:Nat,drawD n c fs.length=(k:Int):=⟨(drawD n c fs.length).toNat,(Int.toNat_of_nonneg d0).symm⟩
 have hkn:k<fs.length:=by lia
 refine ExFN.step (Ex.assignL 4 rfl (Ev.bin (Ev.binI (Ev.binI (Ev.callB (ns_len hG) rfl Keeps.builtin (Args'.name (i:=2) rfl rfl (Args'.nil (CallP.lenL (Bin.mulL (Bin.add ?_) (by decide) (by decide)) (by rw [hfl];exact hflen)))))))))
 refine rwG (hfl ..) ?_
 refine Ev.callB (ns_sum hG) rfl Keeps.builtin (Args'.cons ?_)
 refine Ev.comp [none,none,none,none] ((fs.take k).map fontA) (fun m out σ'=>σ'= [(a,penObj (drawN n fs.length) (c+1))]∧out=(((fs.take k).take m).map fun f=>((12+16*f.2.length:Nat):Int)).map .int) ?_ ?_ ?_ (by rw [List.length_map,List.length_take];lia)
 ·refine Ev.sliceL (Ev.name (i:=2) rfl rfl ⟨_,rfl,by rw [hfl];lia,EvP.none (EvP.some ?_)⟩)
  refine Ev.callG (ns_law_draw hG) (.fk hG rfl) (Args'.name (i:=1) rfl rfl (Args'.cons ?_))
  refine Ev.callB (ns_len hG) rfl Keeps.builtin (Args'.name (i:=2) rfl rfl (Args'.nil (CallP.lenL (Args'.nil ?_) (by rw [hfl];exact hflen))))
  refine rwG (hfl ..) ?_
  refine law_draw_spec hG (rk 1 (by decide)) (j:=0) rfl hc0 (by lia) (by lia) (by lia) ⟨_,rfl,?_⟩
  refine rwG (hk ..) ?_;refine rwG (cut_pre ..) ?_;refine rwGr (List.map_take ..) ?_
  exact ⟨.lst _,rfl,rfl⟩
 ·rintro m w out σ' hm ⟨rfl,rfl⟩
  obtain ⟨f,hfk,rfl⟩:=map_at hm
  have Fo:=hf f (List.mem_of_mem_take (List.mem_of_getElem? hfk))
  refine CTurn.pair 1 2 (fun _ _=>rfl) (fun _ _=>rfl) rfl (fun _ _=>rfl) (fun _ _=>rfl) rfl fun cl Cc=>Tsts.nil ?_
  show Ev _ _ _ _ _ _ _
  refine Ev.binI (Ev.binI (Ev.call (Ev.built (hk:=comp_kind rfl rfl) (ns_len hG) rfl ⟨_,rfl,Keeps.builtin,Args'.name (i:=2) rfl rfl (Args'.nil (CallP.lenD (by rw [tab_keys];exact Fo.row.nodup) (Bin.mulL (Bin.add ⟨rfl,?_⟩) (by decide) (by decide)) ?_))⟩)))
  ·refine rwG (List.take_add_one ..) ?_;refine rwG (hfk ..) ?_;refine rwG (Option.toList_some ..) ?_;refine rwG (List.map_append ..) ?_;refine rwG (List.map_append ..) ?_;refine rwG (List.length_map ..) ?_
   congr 1
  ·rw [List.length_map];exact Nat.le_trans Fo.few.2 (by decide)
 rintro out σ' ⟨rfl,rfl⟩
 refine rwG (List.length_map ..) ?_;refine rwG (List.take_length ..) ?_
 refine Args'.nil (CallP.sum (Bin.add ?_))
 refine rwG (sum_cast (fun f:Font=>12+16*f.2.length) ..) ?_
 have eb:(12:Int)+4*(fs.length:Int)+(((((fs.take k).map fun f=>12+16*f.2.length).sum:Nat)):Int)=((dirAt fs.length fs k:Nat):Int):=by
  unfold dirAt;lia
 refine rwG (eb ..) ?_
 have hle:=dirAt_le (n:=fs.length) hf h64 h64 k
 have hsz: ∀(lo hi:Option Int),(cut (writeB fs) lo hi).length≤200000:=fun lo hi=>Nat.le_trans (hcl lo hi) hWl
 refine genE (drawN n fs.length) ?_
 intro n2 hn2
 refine ExFN.step (Ex.for ((hurts fs k).map .bytes) (Ph28 zs fs a (dirAt fs.length fs k) n2 c) ?_ ?_ ?_)
 ·refine Ev.tuple (Args'.cons (Ev.bin (Ev.bytes ?_)))
  refine Ev.sliceBN (i:=3) rfl rfl hW (EvP.int (EvP.none (Bin.addB ?_ (by have:=hsz (some 4) none;show 4+_≤_;lia))))
  refine rwG (show cut (writeB fs) (some 4) none=(writeB fs).drop 4 from cut_suf _ 4) ?_
  refine Args'.cons (Ev.bin (Ev.bin (Ev.sliceBN (i:=3) rfl rfl hW (EvP.none (EvP.int ?_)))))
  refine Ev.bytes (Bin.addB ?_ (by have:=hsz none (some 5);show _+1≤_;lia))
  refine Ev.sliceBN (i:=3) rfl rfl hW (EvP.int (EvP.none (Bin.addB ?_ (by have:=hsz none (some 5);have:=hsz (some 6) none;rw [List.length_append];show _+1+_≤_;lia))))
  refine rwG (e5 ..) ?_
  refine Args'.cons (Ev.bin (Ev.bin (Ev.sliceBN (i:=3) rfl rfl hW (EvP.none (EvP.int ?_)))))
  refine Ev.callB (ns_bytes hG) rfl Keeps.type (Args'.int (Args'.nil (CallP.bytesI (by decide) (by decide) (Bin.addB ?_ (by have:=hsz none (some 8);show _+4≤_;lia)))))
  refine Ev.sliceBN (i:=3) rfl rfl hW (EvP.int (EvP.none (Bin.addB ?_ (by have:=hsz none (some 8);have:=hsz (some 12) none;rw [List.length_append];show _+4+_≤_;lia))))
  refine rwG (show cut (writeB fs) none (some 8)=(writeB fs).take 8 from cut_pre _ 8) ?_;refine rwG (show cut (writeB fs) (some 12) none=(writeB fs).drop 12 from cut_suf _ 12) ?_
  refine Args'.cons (Ev.bin (Ev.bin (Ev.sliceBN (i:=3) rfl rfl hW (EvP.none (EvP.int ?_)))))
  refine Ev.bytes (Bin.addB ?_ (by have:=hsz none (some 9);show _+1≤_;lia))
  refine Ev.sliceBN (i:=3) rfl rfl hW (EvP.int (EvP.none (Bin.addB ?_ (by have:=hsz none (some 9);have:=hsz (some 10) none;rw [List.length_append];show _+1+_≤_;lia))))
  refine rwG (show cut (writeB fs) none (some 9)++ [1]++cut (writeB fs) (some 10) none=patch (writeB fs) 9 1 from patch_cut _ 9 1) ?_
  refine Args'.cons (Ev.bin (Ev.bin (Ev.sliceBN (i:=3) rfl rfl hW (EvP.none (EvP.name (i:=4) rfl rfl ?_)))))
  refine Ev.bytes (Bin.addB ?_ (by have:=hsz none (some (dirAt fs.length fs k:Nat));show _+1≤_;lia))
  refine Ev.sliceBN (i:=3) rfl rfl hW (EvP.some (Ev.binNI (i:=4) rfl rfl (Bin.add ⟨_,rfl,EvP.none (Bin.addB ?_ (by have:=hsz none (some (dirAt fs.length fs k:Nat));have:=hsz (some ((dirAt fs.length fs k:Nat)+1)) none;rw [List.length_append];show _+1+_≤_;lia))⟩)))
  refine rwG (patch_cut ..) ?_
  exact Args'.nil ⟨Nat.le_of_ble_eq_true rfl,.tup _,rfl,rfl⟩
 ·rintro i w lv σ' hi e
  refine stE e fun t=>?_
  obtain ⟨b,hb,rfl⟩:=map_at hi
  obtain ⟨hbad,hbl⟩:=hurts_bad hf h0 h3 hkn b (List.mem_of_getElem? hb)
  refine Sto.nameL 5 rfl ?_
  refine Ex.cons (Ex.ite (Tst.not (Tst.val (Ev.callG (ns_law_is_refused hG) (.fk hG rfl) (Args'.cons (Ev.glob (ns_read_collection hG) (Args'.name (i:=5) rfl rfl (Args'.nil ?_))))))))
  refine refused_spec hG hXb hTb rfl (rk 1 (by decide)) (Keeps.fk hG rfl) (fun g L''=>read_collection_spec hG hP (show 7≤40 - 1 by decide) hbl (.inr ⟨trivial,hbad⟩)) ⟨_,rfl,?_⟩
  refine rwG (if_neg (by decide) ..) ?_
  exact Ex.nil (Ex.nil ⟨rfl,rfl⟩)
 rintro lv σ' e
 refine stE e fun t=>?_
 refine ExFN.step (Ex.for ((cuts fs k).map .bytes) (Ph28 zs fs a (dirAt fs.length fs k) n2 c) ?_ ?_ ?_)
 ·refine Ev.tuple (Args'.cons (Ev.bytes (Args'.cons (Ev.sliceBN (i:=3) rfl rfl hW (EvP.none (EvP.int ?_))))))
  refine rwG (show cut (writeB fs) none (some 11)=(writeB fs).take 11 from cut_pre _ 11) ?_
  refine Args'.cons (Ev.sliceBN (i:=3) rfl rfl hW (EvP.none (EvP.int ?_)))
  refine rwG (show cut (writeB fs) none (some 15)=(writeB fs).take 15 from cut_pre _ 15) ?_
  refine Args'.cons (Ev.sliceBN (i:=3) rfl rfl hW (EvP.none (EvP.some (Ev.binNI (i:=4) rfl rfl (Bin.add ⟨_,rfl,?_⟩)))))
  refine rwG (show cut (writeB fs) none (some (((dirAt fs.length fs k:Nat):Int)+11))=(writeB fs).take (dirAt fs.length fs k+11) from cut_pre _ (dirAt fs.length fs k+11)) ?_
  refine Args'.cons (Ev.sliceBN (i:=3) rfl rfl hW (EvP.none (EvP.some (Ev.binNI (i:=4) rfl rfl (Bin.add ⟨_,rfl,?_⟩)))))
  refine rwG (show cut (writeB fs) none (some (((dirAt fs.length fs k:Nat):Int)+27))=(writeB fs).take (dirAt fs.length fs k+27) from cut_pre _ (dirAt fs.length fs k+27)) ?_
  exact Args'.nil ⟨Nat.le_of_ble_eq_true rfl,.tup _,rfl,rfl⟩
 ·rintro i w lv σ' hi e
  refine stE e fun t=>?_
  obtain ⟨b,hb,rfl⟩:=map_at hi
  obtain ⟨hbad,hbl,hbc⟩:=cuts_bad hf h0 h3 hkn b (List.mem_of_getElem? hb)
  refine Sto.nameL 6 rfl ?_
  refine Ex.cons (Ex.ite (Tst.boolop (All.or (Tst.not (Tst.val (Ev.callG (ns_law_is_refused hG) (.fk hG rfl) (Args'.cons (Ev.glob (ns_read_collection hG) (Args'.name (i:=6) rfl rfl (Args'.nil ?_))))))))))
  refine refused_spec hG hXb hTb rfl (rk 1 (by decide)) (Keeps.fk hG rfl) (fun g L''=>read_collection_spec hG hP (show 7≤40 - 1 by decide) hbl (.inr ⟨trivial,hbad⟩)) ⟨_,rfl,?_⟩
  refine rwG (if_neg (by decide) ..) ?_
  refine All.or (Tst.cmp (Ev.callG (ns_is_collection hG) (.fk hG rfl) (Args'.name (i:=6) rfl rfl (Args'.nil ?_))))
  refine is_collection_spec hG (rk 4 (by decide)) hbl ?_
  show Ev _ _ _ _ _ (fun b' σ₂=>Cmp _ _ _ σ₂ _ (.bool (isColl b)) b' _ _) _
  refine rwG (hbc ..) ?_
  refine Ev.cmp (Ev.callB (ns_len hG) rfl Keeps.builtin (Args'.name (i:=6) rfl rfl (Args'.nil (CallP.lenB (Ev.int (Cmp.ge (Cmp.neBool ?_))) (Nat.le_trans hbl (by decide))))))
  refine rwG (show decide ((12:Int)≤(b.length:Int))=decide (12≤b.length) from decide_eq_decide.mpr (by lia)) ?_;refine rwG (bne_self_eq_false ..) ?_;refine rwG (if_neg (by decide) ..) ?_
  refine All.or_nil ?_
  refine rwG (if_neg (by decide) ..) ?_
  exact Ex.nil (Ex.nil ⟨rfl,rfl⟩)
 rintro lv σ' e
 refine stE e fun t=>?_
 obtain ⟨f0,hf0⟩: ∃f,fs[0]?=some f:=⟨fs[0],List.getElem?_eq_getElem _⟩
 refine ExFN.step (Ex.ite (Tst.boolop (All.or (Tst.not (Tst.val (Ev.callG (ns_law_is_refused hG) (.fk hG rfl) (Args'.cons (Ev.glob (ns_write_collection hG) (Args'.cons ?_)))))))))
 refine Ev.bin (Ev.list (Args'.cons (Ev.subN (i:=2) rfl rfl (Ev.int (Item.list (v:=fontA f0) ?_ (by decide) (by decide) (by rw [List.getElem?_map];show (fs[0]?).map fontA=_;rw [hf0];rfl))))))
 refine Args'.nil ⟨Nat.le_of_ble_eq_true rfl,Ev.int (Bin.mulLst (List.cons_ne_nil _ _) (by decide) (by decide) (Nat.le_of_ble_eq_true rfl) ?_)⟩
 refine rwG (rep65 ..) ?_
 refine Args'.nil (refused_spec hG hXb hTb rfl (rk 1 (by decide)) (Keeps.fk hG rfl) (fun g L''=>write_refused hG hP (show 2≤40 - 1 by decide) trivial (.inr (by rw [List.length_replicate];decide))) ⟨_,rfl,?_⟩)
 refine rwG (if_neg (by decide) ..) ?_
 refine All.or (Tst.val (Ev.callG (ns_is_collection hG) (.fk hG rfl) (Args'.cons (Ev.bin (Ev.bytes (Ev.callB (ns_bytes hG) rfl Keeps.type (Args'.int (Args'.nil (CallP.bytesI (by decide) (by decide) (Bin.addB (Args'.nil ?_) (by decide)))))))))))
 refine is_collection_spec hG (rk 4 (by decide)) (by decide) ⟨_,rfl,?_⟩
 refine rwG (if_neg (by decide+kernel) ..) ?_
 refine All.or (Tst.not (Tst.val (Ev.callG (ns_is_collection hG) (.fk hG rfl) (Args'.cons (Ev.bin (Ev.bytes (Ev.callB (ns_bytes hG) rfl Keeps.type (Args'.int (Args'.nil (CallP.bytesI (by decide) (by decide) (Bin.addB (Args'.nil ?_) (by decide))))))))))))
 refine is_collection_spec hG (rk 4 (by decide)) (by decide) ⟨_,rfl,?_⟩
 refine rwG (if_neg (by decide+kernel) ..) ?_
 refine All.or_nil ?_
 refine rwG (if_neg (by decide) ..) ?_
 refine Ex.nil ?_
 obtain ⟨w0,w1⟩:=drawD_in n2 (c+1) (many:=14) (by decide)
 refine ExFN.retCall (Ev.glob (ns_law_many_right hG) ⟨_,rfl,Keeps.fk hG rfl,ArgsN.cons (.of (Ev.callG (ns_law_draw hG) (.fk hG rfl) (Args'.name (i:=1) rfl rfl (Args'.int (Args'.nil ?_)))))⟩)
 refine law_draw_spec hG (rk 1 (by decide)) (j:=0) rfl (by lia) (by lia) (by decide) (by decide) (ArgsN.nil ?_)
 revert w0 w1
 refine gen (drawD n2 (c+1) 14) ?_
 intro way w0 w1
 by_cases hw:way=1
 ·subst hw
  exact CallFN.ofF (many_one hG hP hXb hTb rfl (rk 12 (by decide)))
 ·exact CallFN.ofN (many_other hG (rk 6 (by decide)) (by lia) rfl)
end
section
variable {G:Gl}
theorem call_top {f:Addr}{D:DefAt G f}{ps:List Str}(ok:D.Ok ps){vs:List AVal}(hn:vs.length=ps.length)(hb: ∀cvs:List Value,cvs.length=vs.length→bindArgs D.fn ⟨cvs,[]⟩=pure (ps.zip cvs))
  {s:Shared}{cvs:List Value}(Z:Glo G s.heap) (r:VRels G.w.params (fun a o=>s.heap.get? a=some o) vs cvs)
  (h: ∀L',ExFN G (topCx D.qual D.scope f D.cdv s.heap L') (vs.map some++List.replicate (D.scope.names.length - vs.length) none) [] (execs D.body (envOfC D.qual D.scope L' f D.cdv))):
  wpN (model G.prog G.w) callerA (call (.ref f) cvs) (fun v s'=>v= .bool true∧KB s.heap s s') (fun _ _=>False) s:=by
 refine wpN.call ?_
 have X:=Z.frag
 have hlen:cvs.length=vs.length:=r.length
 refine codeN.callFunction (fd:=D.fn) (by decide) (X _ _ ok.at_) rfl ok.hco ok.hgen rfl (codeRec_of X ok.code) ?_
 rw [hb cvs hlen]
 refine wpAny_pure ?_
 have hzip:((ps.zip cvs).map (·.1))=ps:=List.map_fst_zip (by lia)
 have pnd:ps.Nodup:=by
  rw [←ok.names,List.map_take]
  exact ok.nd.sublist (List.take_sublist _ _)
 refine wpAny_newFunctionEnv_cells ok.kind (fun y hy=>?_) fun env' he s' hx=>?_
 ·have hy':y.1∈ps:=hzip▸List.mem_map_of_mem hy
  exact (ok.kinds _ hy').imp id fun q=>⟨q,ok.has _ _ q⟩
 subst he
 refine ⟨Z.nolimit.keeps hx.toInCall.keep,codeN.func ?_⟩
 obtain ⟨h₁,tk,rfl,hk₁⟩:=hx.done
 generalize hLdef:s.heap.objs.size=L' at hx
 have hsz: ∀c o,s.heap.get? c=some o→c<L':=fun c o q=>hLdef▸Heap.lt_size q
 have sL':s.heap.get? L'=none:=by
  cases q:s.heap.get? L' with
  |none=>rfl
  |some o=>exact absurd (hsz _ _ q) (Nat.lt_irrefl _)
 let cl:=(cellsFrom (L'+1) D.scope.names []).map (·.2)
 have clNone: ∀c∈cl,s.heap.get? c=none∧c≠L':=fun c hc=>by
  obtain ⟨⟨n,c'⟩,hm,rfl⟩:=List.mem_map.mp hc
  have hlt:L'<c':=hx.above n c' hm
  refine ⟨?_,Nat.ne_of_gt hlt⟩
  cases q:s.heap.get? c' with
  |none=>rfl
  |some o=>exact absurd (hsz _ _ q) (Nat.lt_asymm hlt)
 let K:Kept:=fun a o=>s.heap.get? a=some o
 let J':Kept:=fun a o=>a∈cl∧h₁.get? a=some o
 have S':Sit G (topCx D.qual D.scope f D.cdv s.heap L') (vs.map some++List.replicate (D.scope.names.length - vs.length) none) K J' (bindL (envOfC D.qual D.scope L' f D.cdv).kindOf (ps.zip cvs) fun _=>none):=by
  refine ⟨below_caller s.heap,Around.frames_deeper rfl,rfl,rfl,ok.kind,ok.kind,rfl,rfl,rfl,Nat.le_of_eq hLdef,fun a o e=> .inl e,fun a o e=>X a o e,Z,fun i y k v h1 h2=>?_,ok.nd,fun y z c h1 h2=>cells_inj hx.apart h1 h2,fun y c _ h2 _=>lookup_mem_map h2,fun c hc=>(clNone c hc).1,fun y c _ h2=>?_,fun c hc=>?_,rfl,by show callerA.depth+1+4*40<recursionLimit;decide,by show callerA.units+3+16*40+64<cLine;decide⟩
  ·have hi:i<vs.length:=by
    rcases Nat.lt_or_ge i vs.length with q|q
    ·exact q
    ·rw [List.getElem?_append_right (by simpa using q)] at h2
     rw [List.getElem?_replicate] at h2
     split at h2<;>simp at h2
   rw [List.getElem?_append_left (by simpa using hi),List.getElem?_map] at h2
   have hv:vs[i]?=some v:=by
    cases q:vs[i]? with
    |none=>rw [q] at h2;simp at h2
    |some w=>rw [q] at h2;simp at h2;rw [h2]
   obtain ⟨cv,hcv,rv⟩:=r.get hv
   have hy:ps[i]?=some y:=by
    have:=congrArg (·[i]?) ok.names
    simp only [List.getElem?_map,List.getElem?_take] at this
    have h1':D.scope.names[i]?=some (y,k):=h1
    rw [if_pos (by exact Nat.lt_of_lt_of_eq hi hn),h1'] at this
    exact this.symm
   have hm:(y,cv)∈ps.zip cvs:=by
    refine List.mem_of_getElem? (i:=i) ?_
    rw [List.getElem?_zip_eq_some]
    exact ⟨hy,hcv⟩
   have hnd:((ps.zip cvs).map (·.1)).Nodup:=by rw [hzip];exact pnd
   refine ⟨cv,⟨ok.deb y (List.mem_map.mpr ⟨_,List.mem_of_getElem? h1,rfl⟩),?_⟩,rv⟩
   rcases ok.kinds y (List.mem_of_getElem? hy) with q|q
   ·exact .inl ⟨q,.inl ⟨rfl,bindL_get hnd hm q⟩⟩
   ·have hs:=ok.has y (L'+1) q
    refine hideG fun M kM=>?_
    obtain ⟨c,hc⟩:=Option.isSome_iff_exists.mp hs
    obtain ⟨o,ho,hd⟩:=hx.cell y c hc
    refine kM ?_
    clear kM
    refine .inr ⟨q,c,o,hc,⟨lookup_mem_map hc,ho⟩,?_⟩
    rw [hd,bindC_get hnd hm q]
  ·obtain ⟨o,ho,hd⟩:=hx.cell y c h2
   exact ⟨o,_,⟨lookup_mem_map h2,ho⟩,hd⟩
  ·obtain ⟨⟨n,c'⟩,hm,rfl⟩:=List.mem_map.mp hc
   obtain ⟨o,ho,hd⟩:=hx.cell n c' (lookup_of_nodup hm (ok.cells _))
   exact ⟨o,_,⟨hc,ho⟩,hd⟩
 have I':Inv K J' [] L' (bindL (envOfC D.qual D.scope L' f D.cdv).kindOf (ps.zip cvs) fun _=>none) h₁:=by
  refine ⟨fun a o e=>hk₁ _ _ e,fun a o e=>e.2,fun p hp=>(nomatch hp),List.nodup_nil,fun p hp=>(nomatch hp),fun p hp=>(nomatch hp),fun a o o' e q=>?_,hx.toInCall.ns,fun o e=>?_,fun o e=>(clNone _ e.1).2 rfl,fun p hp=>(nomatch hp)⟩
  ·have:=(clNone a q.1).1
   rw [show s.heap.get? a=some o from e] at this;cases this
  ·rw [show s.heap.get? L'=some o from e] at sL';cases sL'
 refine (h L' K J' _ [] {s with heap:=h₁,toks:=tk} S' I' .nil).mono (fun f s' q=>?_) fun _ _ f=>f.elim
 obtain ⟨rfl,q⟩:=q
 exact ⟨rfl,q.start⟩
end
theorem VRels.of_ints {P:Params}{K:Kept}{cvs:List Value}{zs:List Int}(h:IntsAre cvs zs):VRels P K (zs.map .int) cvs:=by
 induction h with
 |nil=>exact .nil
 |cons i t r ih=>exact .cons (.int i t) ih
theorem law_end {G:Gl}(hG:G.frag=KF G.w.params)(hP:ProgOk G.prog){s:Shared}{p:Program}{loose:List Str}{mean:ExcName→Option Value}(T:Top p loose mean G.mg G.mb s.heap)(X:G.frag.In s.heap){l:Addr}{cvs:List Value}{zs:List Int}
  (hL:s.heap.IsList l cvs.toArray) (hI:IntsAre cvs zs) (hz:zs.length≤63):wpN (model G.prog G.w) callerA (call (.ref 483) [.ref l]) (fun v s'=>v= .bool true∧KB s.heap s s') (fun _ _=>False) s:=by
 obtain ⟨o,h1,h2,n,h3⟩:=hL
 refine call_top (ok_law hG) (vs:= [.lsx (zs.map .int)]) rfl (len1 fun _=>rfl) ⟨X,T.g,T.b,T.nolimit,T.builtins⟩ (.cons (.lsx h1 h2 h3 (.of_ints hI)) .nil) fun L'=>?_
 exact law_walk hG hP X T hz
end
end Mine.Internal
namespace Mine
noncomputable section
set_option Elab.async true
theorem PySem.W.holds_open {r:OpenRow}{q:Program}{loose:List Str}{Xt:Shared→Bool}{XP:(Str→Option Value)→Heap→Prop}{α:Type}{Yf:Shared→α}{Ya:World→α}{YP:World→Heap→Prop}{d:DefRec}{kwd:List (Str×Expr)}{N:Nat}
 (left:LeftO r.prog q loose Xt Yf Ya N) (hY: ∀w s,Yf s=Ya w→YP w s.heap) (hYk: ∀w h h',YP w h→(∀b o,h.get? b=some o→h'.get? b=some o)→YP w h')
 (hX: ∀s,Xt s=true→XP (s.heap.nsMap mainGlobals) s.heap) (hXk: ∀mg h h',XP mg h→(∀b o,h.get? b=some o→h'.get? b=some o)→XP mg h')
 (hdef:defOf q r.name=some (d,kwd)) (hp:r.prog.theDef r.name=some (d.params,d.body,d.scope)) (hk:kwWritten? d.params.kwonlyargs d.params.kw_defaults=some kwd) (hRf: ∀s,Xt s=true→RecFacts r.records s.heap) (hwr:(!r.writes||r.records.isEmpty)=true)
 (k1:r.wellSaid=true) (ok:(chainsOk q&&opensWell r.prog&&(frees r.toRowW&&r.within.isEmpty))=true) (hb:r.prog.bare) (hw:r.toRowW.promised)
 (walk:Internal.WalkC q loose XP YP r.toRowW d kwd):r.Holds:=Internal.holds_clean left hY hYk hX hXk hdef hp hk hRf hwr k1 ok hb hw walk
theorem head.tw10005452208157733855 :True:=trivial
theorem head.tw10010264046613662565 :True:=trivial
theorem head.tw10015159338476511836 :True:=trivial
theorem head.tw10021064610941686981 :True:=trivial
theorem head.tw10059252607514160932 :True:=trivial
theorem head.tw10079960370226730655 :True:=trivial
theorem head.tw10205530081349824492 :True:=trivial
theorem head.tw10261356005730403935 :True:=trivial
theorem head.tw1026193387108322133 :True:=trivial
theorem head.tw10356212845559719233 :True:=trivial
theorem head.tw10366927770000222440 :True:=trivial
theorem head.tw10405530465085936428 :True:=trivial
theorem head.tw10431609616501453582 :True:=trivial
theorem head.tw10467814448475477596 :True:=trivial
theorem head.tw10504981510240967646 :True:=trivial
theorem head.tw10510622979536455646 :True:=trivial
theorem head.tw10533634037010066435 :True:=trivial
theorem head.tw10668533816033670360 :True:=trivial
theorem head.tw10706776884845955466 :True:=trivial
theorem head.tw10730805705081004914 :True:=trivial
theorem head.tw10786079294511566085 :True:=trivial
theorem head.tw10812213935944405949 :True:=trivial
theorem head.tw10840385229135970747 :True:=trivial
theorem head.tw10875119458065257276 :True:=trivial
theorem head.tw10898857373019930491 :True:=trivial
theorem head.tw10987702880554017565 :True:=trivial
theorem head.tw11005904730967762025 :True:=trivial
theorem head.tw11105056867450500199 :True:=trivial
theorem head.tw11124748197601291601 :True:=trivial
theorem head.tw11290360913936777911 :True:=trivial
theorem head.tw11308087075614649832 :True:=trivial
theorem head.tw1134157569726261602 :True:=trivial
theorem head.tw11426403942048686318 :True:=trivial
theorem head.tw11427066125472700054 :True:=trivial
theorem head.tw11434997419882176723 :True:=trivial
theorem head.tw11484358847640170188 :True:=trivial
theorem head.tw11544532188706048022 :True:=trivial
theorem head.tw11628534518673281344 :True:=trivial
theorem head.tw11692735721529064706 :True:=trivial
theorem head.tw11714945338242495837 :True:=trivial
theorem head.tw11770459041652445329 :True:=trivial
theorem head.tw11821203517306503961 :True:=trivial
theorem head.tw11862927689305589065 :True:=trivial
theorem head.tw11988142204041823098 :True:=trivial
theorem head.tw12024539317367501503 :True:=trivial
theorem head.tw12032222614953749359 :True:=trivial
theorem head.tw12043669396524033845 :True:=trivial
theorem head.tw12074249297620881909 :True:=trivial
theorem head.tw1211024037004892549 :True:=trivial
theorem head.tw1212124681294104184 :True:=trivial
theorem head.tw12147184966966947637 :True:=trivial
theorem head.tw12201952087667049370 :True:=trivial
theorem head.tw12207028300977255130 :True:=trivial
theorem head.tw12287978374625458572 :True:=trivial
theorem head.tw12344544660321961925 :True:=trivial
theorem head.tw12352672977532951062 :True:=trivial
theorem head.tw12359489953124434286 :True:=trivial
theorem head.tw12364624919760631829 :True:=trivial
theorem head.tw12398312691204496596 :True:=trivial
theorem head.tw12460202669355646752 :True:=trivial
theorem head.tw12475708393154427166 :True:=trivial
theorem head.tw12478146576626367362 :True:=trivial
theorem head.tw12604462930493870256 :True:=trivial
theorem head.tw12740806245664736207 :True:=trivial
theorem head.tw12763952150808568291 :True:=trivial
theorem head.tw12773685731770592110 :True:=trivial
theorem head.tw12775505166333009402 :True:=trivial
theorem head.tw12822298378996975857 :True:=trivial
theorem head.tw12851702773856589430 :True:=trivial
theorem head.tw12858780395421280599 :True:=trivial
theorem head.tw12870424476946447624 :True:=trivial
theorem head.tw12892129938458570674 :True:=trivial
theorem head.tw12903917746401883607 :True:=trivial
theorem head.tw12949380547846470161 :True:=trivial
theorem head.tw12987040726578829979 :True:=trivial
theorem head.tw12998212659555988865 :True:=trivial
theorem head.tw13078646160514809887 :True:=trivial
theorem head.tw13086575352542018947 :True:=trivial
theorem head.tw1315816938146588887 :True:=trivial
theorem head.tw13180129090757240718 :True:=trivial
theorem head.tw13198292447841614426 :True:=trivial
theorem head.tw13199516396595161752 :True:=trivial
theorem head.tw1319983325249436295 :True:=trivial
theorem head.tw13246386896891170512 :True:=trivial
theorem head.tw13295774097974887486 :True:=trivial
theorem head.tw13335025841360890868 :True:=trivial
theorem head.tw13337238644230332656 :True:=trivial
theorem head.tw13353151263460963528 :True:=trivial
theorem head.tw13510609219080548989 :True:=trivial
theorem head.tw13585267454733459922 :True:=trivial
theorem head.tw13605870324054321959 :True:=trivial
theorem head.tw13637325136056909300 :True:=trivial
theorem head.tw13704148757180265829 :True:=trivial
theorem head.tw13743032657059413451 :True:=trivial
theorem head.tw13751767096200789157 :True:=trivial
theorem head.tw13896987355042952010 :True:=trivial
theorem head.tw1389810093214676884 :True:=trivial
theorem head.tw13906610036690215845 :True:=trivial
theorem head.tw13954853420313727417 :True:=trivial
theorem head.tw13955511503576765797 :True:=trivial
theorem head.tw13986843968525588388 :True:=trivial
theorem head.tw13988103294471073821 :True:=trivial
theorem head.tw14028522991509751376 :True:=trivial
theorem head.tw14061139507663348314 :True:=trivial
theorem head.tw14112051064653734678 :True:=trivial
theorem head.tw14145653219816572579 :True:=trivial
theorem head.tw14195316510222423288 :True:=trivial
theorem head.tw14385403278947933607 :True:=trivial
theorem head.tw14393718171448925343 :True:=trivial
theorem head.tw14417885227837004991 :True:=trivial
theorem head.tw14432977821161478157 :True:=trivial
theorem head.tw14512941343882779238 :True:=trivial
theorem head.tw14527164170590304321 :True:=trivial
theorem head.tw1457377512435260902 :True:=trivial
theorem head.tw14628233357713752721 :True:=trivial
theorem head.tw1463646239528298992 :True:=trivial
theorem head.tw14643560169476415855 :True:=trivial
theorem head.tw14667470093908496907 :True:=trivial
theorem head.tw14676189674455941282 :True:=trivial
theorem head.tw14679116673082234219 :True:=trivial
theorem head.tw14699528089545365996 :True:=trivial
theorem head.tw14699756766385990792 :True:=trivial
theorem head.tw14720509044617813951 :True:=trivial
theorem head.tw14744981736328886265 :True:=trivial
theorem head.tw14842460003800876886 :True:=trivial
theorem head.tw14843749296085226474 :True:=trivial
theorem head.tw14877080517539528568 :True:=trivial
theorem head.tw14882813523228863612 :True:=trivial
theorem head.tw1495726902847802894 :True:=trivial
theorem head.tw14969872817325187116 :True:=trivial
theorem head.tw14982685227137828758 :True:=trivial
theorem head.tw1499353310998574721 :True:=trivial
theorem head.tw14999265807660949796 :True:=trivial
theorem head.tw15035418422258542911 :True:=trivial
theorem head.tw1506576300011279404 :True:=trivial
theorem head.tw15091486752826498866 :True:=trivial
theorem head.tw15112835437128306455 :True:=trivial
theorem head.tw15148963937461231693 :True:=trivial
theorem head.tw15204471325056678010 :True:=trivial
theorem head.tw15253846138512369154 :True:=trivial
theorem head.tw15296082917334920728 :True:=trivial
theorem head.tw15326552575505426906 :True:=trivial
theorem head.tw15410735652082386980 :True:=trivial
theorem head.tw15436542981012472205 :True:=trivial
theorem head.tw15468718075485040107 :True:=trivial
theorem head.tw15501141472565082077 :True:=trivial
theorem head.tw15506723302920939300 :True:=trivial
theorem head.tw15510365090734361527 :True:=trivial
theorem head.tw15520248196984853422 :True:=trivial
theorem head.tw15539854500240908086 :True:=trivial
theorem head.tw15638870477510070732 :True:=trivial
theorem head.tw15735840784391694233 :True:=trivial
theorem head.tw15782939476341012554 :True:=trivial
theorem head.tw15785421084128741142 :True:=trivial
theorem head.tw15798066900824788120 :True:=trivial
theorem head.tw15841401105113185080 :True:=trivial
theorem head.tw15894371620910866019 :True:=trivial
theorem head.tw15895551434495452948 :True:=trivial
theorem head.tw16031315777459398524 :True:=trivial
theorem head.tw16065720564569863766 :True:=trivial
theorem head.tw16106133796442146334 :True:=trivial
theorem head.tw16111715859725283846 :True:=trivial
theorem head.tw16128420640991077102 :True:=trivial
theorem head.tw16172288393029767808 :True:=trivial
theorem head.tw16172356507618199906 :True:=trivial
theorem head.tw1620002657737552111 :True:=trivial
theorem head.tw1626232751844553403 :True:=trivial
theorem head.tw16278871845796110771 :True:=trivial
theorem head.tw1643771367246577777 :True:=trivial
theorem head.tw16441004959143088680 :True:=trivial
theorem head.tw16659920880120507502 :True:=trivial
theorem head.tw16706938322248681445 :True:=trivial
theorem head.tw16782820856776367440 :True:=trivial
theorem head.tw16800043278716471037 :True:=trivial
theorem head.tw16817119741492734445 :True:=trivial
theorem head.tw16847831306532103052 :True:=trivial
theorem head.tw1689142752476645926 :True:=trivial
theorem head.tw16894197260953374720 :True:=trivial
theorem head.tw16922147877168347812 :True:=trivial
theorem head.tw16966009324859112401 :True:=trivial
theorem head.tw16977501473774887275 :True:=trivial
theorem head.tw16984083398119652359 :True:=trivial
theorem head.tw16997897962222511 :True:=trivial
theorem head.tw17002534310236347988 :True:=trivial
theorem head.tw17014734716931888790 :True:=trivial
theorem head.tw17015032458148788900 :True:=trivial
theorem head.tw17093656651364094606 :True:=trivial
theorem head.tw17113217626458354986 :True:=trivial
theorem head.tw17142359554024780413 :True:=trivial
theorem head.tw1714602735852981970 :True:=trivial
theorem head.tw17173245716831642929 :True:=trivial
theorem head.tw17188972718952451159 :True:=trivial
theorem head.tw17212568112599259466 :True:=trivial
theorem head.tw17243387458012846398 :True:=trivial
theorem head.tw17265401458761052179 :True:=trivial
theorem head.tw17275705279478898512 :True:=trivial
theorem head.tw17297054508065495485 :True:=trivial
theorem head.tw17312431094565309094 :True:=trivial
theorem head.tw17348764703882912863 :True:=trivial
theorem head.tw17362218986543327160 :True:=trivial
theorem head.tw17440971256312935793 :True:=trivial
theorem head.tw17453365369857097546 :True:=trivial
theorem head.tw1748456618969930982 :True:=trivial
theorem head.tw17508272824862286709 :True:=trivial
theorem head.tw17525636777796739105 :True:=trivial
theorem head.tw17552560543380974038 :True:=trivial
theorem head.tw17577399041416155939 :True:=trivial
theorem head.tw17608190574486352970 :True:=trivial
theorem head.tw17646911460466567920 :True:=trivial
theorem head.tw17674571679781333832 :True:=trivial
theorem head.tw17700853532424174462 :True:=trivial
theorem head.tw17725469503822016867 :True:=trivial
theorem head.tw17782148633632673465 :True:=trivial
theorem head.tw17789423225533864492 :True:=trivial
theorem head.tw17829360733465232015 :True:=trivial
theorem head.tw17836260108008149386 :True:=trivial
theorem head.tw17844492200522320778 :True:=trivial
theorem head.tw17851911948540123838 :True:=trivial
theorem head.tw17854896373637125580 :True:=trivial
theorem head.tw17905491414393134947 :True:=trivial
theorem head.tw17958272820484234708 :True:=trivial
theorem head.tw17988201657351507238 :True:=trivial
theorem head.tw18007968972792079559 :True:=trivial
theorem head.tw18051680202136193954 :True:=trivial
theorem head.tw18123143868385100064 :True:=trivial
theorem head.tw1823222343581960043 :True:=trivial
theorem head.tw18260194641540637818 :True:=trivial
theorem head.tw1832916270232011604 :True:=trivial
theorem head.tw18332285231265401824 :True:=trivial
theorem head.tw18384547517478447814 :True:=trivial
theorem head.tw18433677622606106133 :True:=trivial
theorem head.tw1852205218256702202 :True:=trivial
theorem head.tw1909714482019496454 :True:=trivial
theorem head.tw1919001801439425371 :True:=trivial
theorem head.tw1985537357303476512 :True:=trivial
theorem head.tw1992862871153497056 :True:=trivial
theorem head.tw2096541523181747872 :True:=trivial
theorem head.tw2154566216772986472 :True:=trivial
theorem head.tw2203363585012173787 :True:=trivial
theorem head.tw2249667046024356820 :True:=trivial
theorem head.tw2260579728952749127 :True:=trivial
theorem head.tw2326617092838664518 :True:=trivial
theorem head.tw2340069552987342377 :True:=trivial
theorem head.tw2355103038987944067 :True:=trivial
theorem head.tw2393098407364606883 :True:=trivial
theorem head.tw2506711637615833298 :True:=trivial
theorem head.tw2518057956044344595 :True:=trivial
theorem head.tw2525317073905713282 :True:=trivial
theorem head.tw2529948359932261575 :True:=trivial
theorem head.tw2554682012703037696 :True:=trivial
theorem head.tw2591067827882107080 :True:=trivial
theorem head.tw262713603470380999 :True:=trivial
theorem head.tw2864405669816312776 :True:=trivial
theorem head.tw2879759524354350568 :True:=trivial
theorem head.tw2994366008111725845 :True:=trivial
theorem head.tw3083302935323014018 :True:=trivial
theorem head.tw3088210815446039105 :True:=trivial
theorem head.tw3089916443595474862 :True:=trivial
theorem head.tw3160712208675142370 :True:=trivial
theorem head.tw3368030927266983236 :True:=trivial
theorem head.tw3453547403478019728 :True:=trivial
theorem head.tw3496171461512900480 :True:=trivial
theorem head.tw3512634313551410195 :True:=trivial
theorem head.tw3547030090768783262 :True:=trivial
theorem head.tw3547240966391284428 :True:=trivial
theorem head.tw3556061257289618393 :True:=trivial
theorem head.tw3581614266968435656 :True:=trivial
theorem head.tw3615648651819825313 :True:=trivial
theorem head.tw3665506230870052707 :True:=trivial
theorem head.tw3688799982635324794 :True:=trivial
theorem head.tw3690969761935527329 :True:=trivial
theorem head.tw3715584954343283195 :True:=trivial
theorem head.tw3746228215898030841 :True:=trivial
theorem head.tw3749026756887285471 :True:=trivial
theorem head.tw3790771472595898956 :True:=trivial
theorem head.tw3794523003379204399 :True:=trivial
theorem head.tw3839736740360565264 :True:=trivial
theorem head.tw3869590956505411354 :True:=trivial
theorem head.tw3944913497352057107 :True:=trivial
theorem head.tw3973953319845086491 :True:=trivial
theorem head.tw3991279037241028524 :True:=trivial
theorem head.tw4009957668330374740 :True:=trivial
theorem head.tw4023466491090337370 :True:=trivial
theorem head.tw4063747431996464497 :True:=trivial
theorem head.tw4160124254940468481 :True:=trivial
theorem head.tw4196546014268931301 :True:=trivial
theorem head.tw4277651752456152607 :True:=trivial
theorem head.tw4381510469713062047 :True:=trivial
theorem head.tw4415685298772064003 :True:=trivial
theorem head.tw4433315090154635215 :True:=trivial
theorem head.tw44622916816846810 :True:=trivial
theorem head.tw45052839361067614 :True:=trivial
theorem head.tw4528443807372415038 :True:=trivial
theorem head.tw4607607821588926596 :True:=trivial
theorem head.tw466721876749952763 :True:=trivial
theorem head.tw467416434755642258 :True:=trivial
theorem head.tw4691952243595246448 :True:=trivial
theorem head.tw4693820183103290663 :True:=trivial
theorem head.tw4709128311485490483 :True:=trivial
theorem head.tw4746297304354101679 :True:=trivial
theorem head.tw4834694072379752904 :True:=trivial
theorem head.tw48543519692965452 :True:=trivial
theorem head.tw4857777746444614323 :True:=trivial
theorem head.tw4945251732147069371 :True:=trivial
theorem head.tw4964814941381164201 :True:=trivial
theorem head.tw4965378191221513410 :True:=trivial
theorem head.tw4972248218790579157 :True:=trivial
theorem head.tw4975070653579243887 :True:=trivial
theorem head.tw4976181008148175253 :True:=trivial
theorem head.tw5015311536963163689 :True:=trivial
theorem head.tw5019597260055213698 :True:=trivial
theorem head.tw5092371620264689978 :True:=trivial
theorem head.tw5104563664521345299 :True:=trivial
theorem head.tw5111174896325423537 :True:=trivial
theorem head.tw5140934472235413692 :True:=trivial
theorem head.tw5141578139466067413 :True:=trivial
theorem head.tw5187041380464763778 :True:=trivial
theorem head.tw5198072286267587767 :True:=trivial
theorem head.tw5257295174491966437 :True:=trivial
theorem head.tw5274623360512300857 :True:=trivial
theorem head.tw5319049981483164881 :True:=trivial
theorem head.tw532055438628499158 :True:=trivial
theorem head.tw5331137831679937033 :True:=trivial
theorem head.tw533756555076263647 :True:=trivial
theorem head.tw5344820902596183494 :True:=trivial
theorem head.tw5346772772824661884 :True:=trivial
theorem head.tw5353729903917744248 :True:=trivial
theorem head.tw5401097623525119610 :True:=trivial
theorem head.tw5438144065070405397 :True:=trivial
theorem head.tw5479459121986351116 :True:=trivial
theorem head.tw5506250874072839755 :True:=trivial
theorem head.tw5593727005144783397 :True:=trivial
theorem head.tw5617373736292572815 :True:=trivial
theorem head.tw5629256929840616583 :True:=trivial
theorem head.tw5637966790752383991 :True:=trivial
theorem head.tw5638995163158488052 :True:=trivial
theorem head.tw5684777059553021320 :True:=trivial
theorem head.tw5723944856813171866 :True:=trivial
theorem head.tw5764021196749891206 :True:=trivial
theorem head.tw5788964047882338313 :True:=trivial
theorem head.tw5797013207949663412 :True:=trivial
theorem head.tw5870146547769353613 :True:=trivial
theorem head.tw5906749814970224870 :True:=trivial
theorem head.tw5927865893512547691 :True:=trivial
theorem head.tw5973763720392745831 :True:=trivial
theorem head.tw5986637957666399235 :True:=trivial
theorem head.tw604627371996746742 :True:=trivial
theorem head.tw6053349399257934933 :True:=trivial
theorem head.tw6085824867444503733 :True:=trivial
theorem head.tw6088685845774392931 :True:=trivial
theorem head.tw6110071263904590700 :True:=trivial
theorem head.tw6161856959107265637 :True:=trivial
theorem head.tw6388477656530123435 :True:=trivial
theorem head.tw6474009502463322548 :True:=trivial
theorem head.tw649443455394278489 :True:=trivial
theorem head.tw6507506987150044280 :True:=trivial
theorem head.tw6587087628758450585 :True:=trivial
theorem head.tw6588589085864783938 :True:=trivial
theorem head.tw6640010369347007910 :True:=trivial
theorem head.tw6684978435548883818 :True:=trivial
theorem head.tw6737735255597943219 :True:=trivial
theorem head.tw6836605351468522007 :True:=trivial
theorem head.tw6846597200999610202 :True:=trivial
theorem head.tw6846866878297920324 :True:=trivial
theorem head.tw6857060684267632606 :True:=trivial
theorem head.tw6880043348581005364 :True:=trivial
theorem head.tw6889739017440866108 :True:=trivial
theorem head.tw69809265629811306 :True:=trivial
theorem head.tw7090939061502383884 :True:=trivial
theorem head.tw7119846925741900413 :True:=trivial
theorem head.tw7277520189549225825 :True:=trivial
theorem head.tw7287109101882759415 :True:=trivial
theorem head.tw7313386461004707312 :True:=trivial
theorem head.tw733406405333840765 :True:=trivial
theorem head.tw7417405269818204032 :True:=trivial
theorem head.tw742351954350328859 :True:=trivial
theorem head.tw7450023128482652576 :True:=trivial
theorem head.tw7494366503370351645 :True:=trivial
theorem head.tw7523532297153676066 :True:=trivial
theorem head.tw7599496313472250701 :True:=trivial
theorem head.tw7658410731251134818 :True:=trivial
theorem head.tw7661765248129044261 :True:=trivial
theorem head.tw7680146299302783591 :True:=trivial
theorem head.tw7704315382344345624 :True:=trivial
theorem head.tw7712916153251135833 :True:=trivial
theorem head.tw7758381527925395934 :True:=trivial
theorem head.tw7789450098604059249 :True:=trivial
theorem head.tw7802898811600756450 :True:=trivial
theorem head.tw7876399200375917224 :True:=trivial
theorem head.tw7906546307943345882 :True:=trivial
theorem head.tw7928285938522686346 :True:=trivial
theorem head.tw7986725268353890298 :True:=trivial
theorem head.tw7994106446794305319 :True:=trivial
theorem head.tw8035625575855466936 :True:=trivial
theorem head.tw807142644699662319 :True:=trivial
theorem head.tw8097174177036852075 :True:=trivial
theorem head.tw8101760021730824546 :True:=trivial
theorem head.tw8159583801465064534 :True:=trivial
theorem head.tw8169693465737517768 :True:=trivial
theorem head.tw8185714761375850791 :True:=trivial
theorem head.tw8187629637223713605 :True:=trivial
theorem head.tw8299393411229908732 :True:=trivial
theorem head.tw8382746154173761051 :True:=trivial
theorem head.tw8402214883040486957 :True:=trivial
theorem head.tw8402328212356670530 :True:=trivial
theorem head.tw8414573866900348196 :True:=trivial
theorem head.tw8451290768687142514 :True:=trivial
theorem head.tw8476099583838051002 :True:=trivial
theorem head.tw851385035628625539 :True:=trivial
theorem head.tw8534208459206503383 :True:=trivial
theorem head.tw8627200689577751383 :True:=trivial
theorem head.tw8715499118904818895 :True:=trivial
theorem head.tw8746372584333653083 :True:=trivial
theorem head.tw8773370040425892893 :True:=trivial
theorem head.tw8773635112355824046 :True:=trivial
theorem head.tw8866670633112419022 :True:=trivial
theorem head.tw8874674299285249911 :True:=trivial
theorem head.tw8912104118211102971 :True:=trivial
theorem head.tw8997269238129315039 :True:=trivial
theorem head.tw9021251233498730489 :True:=trivial
theorem head.tw9074772780463953568 :True:=trivial
theorem head.tw9082462177598256812 :True:=trivial
theorem head.tw9083612298779875492 :True:=trivial
theorem head.tw9101448428047585222 :True:=trivial
theorem head.tw9103479521544129834 :True:=trivial
theorem head.tw9114333099845857663 :True:=trivial
theorem head.tw9133290819911140118 :True:=trivial
theorem head.tw9162278640276766204 :True:=trivial
theorem head.tw9186546921256032858 :True:=trivial
theorem head.tw9196398404247428943 :True:=trivial
theorem head.tw9280153536138602973 :True:=trivial
theorem head.tw930087139818521243 :True:=trivial
theorem head.tw9325057278558614444 :True:=trivial
theorem head.tw9325123708862168440 :True:=trivial
theorem head.tw9353324838224930552 :True:=trivial
theorem head.tw9388430590476628193 :True:=trivial
theorem head.tw9407594320385231609 :True:=trivial
theorem head.tw9464831228461672588 :True:=trivial
theorem head.tw9592777112578238593 :True:=trivial
theorem head.tw9625377726130185387 :True:=trivial
theorem head.tw9702098958229961203 :True:=trivial
theorem head.tw9716329373054682134 :True:=trivial
theorem head.tw9746458257258439470 :True:=trivial
theorem head.tw9820158181544301314 :True:=trivial
theorem head.tw9827913525700040407 :True:=trivial
theorem head.tw9978949632667528635 :True:=trivial
theorem head.tw9984397402777080727 :True:=trivial
theorem head.tw9987851973559822609 :True:=trivial
set_option maxRecDepth 100000 in
set_option maxHeartbeats 8000000 in
theorem head :PySem.Challenge.rw_nu0227_01.Holds:=by
 (w_on;o_law;k_head;(case hw=>w_witness2);intro w s₀ s₁ mg mb G Y fa o pm cd doc dV kV ho hd hcd hD hmg hg args vals as hpre hlay hrd hwl hlo;have KX:=kIn_of Y)
 have X:=(Ground.X G).1
 have V:=(Ground.X G).2
 refine Ground.open G ?_
 intro T B D TE TW
 have TA:=at_of_top T
 wrow_args hpre hlay hrd hwl hlo
 rename_i zs _ _ _ _ _ _ _ l cvs _ hL _ _ _ hI _ hc _
 have eK:Internal.KF w.params=Mine.head.heap_1_39 w.params:=by kernel_rfl
 have X':(Internal.KF w.params).In s₁.heap:=eK▸KX
 let G':Internal.Gl:=⟨PySem.Challenge.rw_nu0227_01.row.prog,w,Internal.KF w.params,mg,mb⟩
 have h1:mg "law"=some (.ref fa):=hmg
 have h2:mg "law"=some (.ref 483):=mg_of X' T.g (Internal.ns_law (G:=G') rfl)
 rw [h1] at h2
 obtain rfl:fa=483:=by injection h2 with h3;injection h3
 refine Internal.wpN.mono (Internal.law_end (G:=G') rfl ⟨by rfl,by rfl⟩ T X' hL hI (by omega)) (fun v s' q=>?_) (fun _ _ f=>f.elim)
 obtain ⟨rfl,h',tk,rfl,kb⟩:=q
 refine ⟨.inl ⟨.bool true,.bool true,[],rfl,fun _=>rfl,.bool true,?_,fun _=>⟨.nil,fun _ ha=>nomatch ha⟩⟩,.of_keep kb,rfl,.of_eq hg⟩
 first
  |wrow_post
  |exact postW_of (by rfl) (by wtm_val) rfl
  |exact postW_of (by rfl) (by rfl) rfl
set_option Elab.async false
end
end Mine
theorem PySem.Challenge.cw_nu0227_01_holds : PySem.Challenge.rw_nu0227_01.Holds :=
 Mine.head
