import PyProof.Rows.All
import Wide.All
import OpenK.AllK
import Wide.FinOn
import HandS.ForMost
import HandS.Exc
import HandS.TryOnly
import HandS.ExcOwn
import HandS.WordsExc
import HandS.Defaults
import HandS.StrMore
import HandS.Small
import HandS.Style
import HandS.TupAny
import HandS.TupMul
import HandS.DictEq
import HandS.Dict
import HandS.HotCalls
import PyProof.EqKinds
import HandS.Deep
import HandS.RaiseMore
import HandS.More
import HandS.NoneIn
import HandS.Text
import HandS.CallSlots
import HandS.Zip
import HandS.Iter
import KE.GoesMore
import KE.GoesEnumKw
import PyProof.Rows.SetFrom
import HandS.Set
import HandS.SetTxt0
import HandS.SetBool
import HandS.SetFor
import HandS.SortInts
import PyProof.Rows.SortShellAny
import HandS.SortOrd
import HandS.IsInst
import PyProof.InstNe
import HandS.MakeKwOnly
import PyProof.CollectIter
import PyProof.WalksMore
import HandS.TupSets
import HandS.Keys
import HandS.Sort
import KE.KSortTupAny
import PyProof.EqAt
import HandS.Replace
import HandS.ReplaceLit
import HandS.EndOwn
import PyProof.Rows.RegFStrParts
import HandS.FStr
import HandS.DictComp
import HandS.SortKw
import HandS.ExcInit
import HandS.ExcIs
import HandS.ExcField
import KE.KExcIs
import KE.KExcInit
import HandS.ExcCtx
import HandS.ExcInitHot
import HandS.SuiteRaise
import HandS.RaiseFrom
import HandS.Comp
import KE.GoesRaise
import HandS.ListItems
import KE.KIndexOf
import KE.KTryMore
import HandS.Flow
import PySem.Challenge.RW_osier_k04_texts_of_webs_read
import PyProof.Rows.StrItems
import PyProof.StrLawsChain
set_option Elab.async false
set_option linter.all false
set_option maxRecDepth 100000
set_option maxHeartbeats 4000000
namespace Oz
open PySem L2
inductive Vl where
 | non | bl (b:Bool) | int (i:Int) | str (s:Str)
 | tup (xs:List Vl) | lst (xs:List Vl) | dct (ks:List Key) (vs:List Vl) | obj (c:Str) (ns:List Str) (vs:List Vl)
 | err (c:Str) (ns:List Str) (vs:List Vl)
 | ref (r:Nat)
 deriving Inhabited
inductive Ob where
 | lst (xs:List Vl) | dct (ks:List Key) (vs:List Vl) | ins (c:Str) (ns:List Str) (vs:List Vl)
 | zU (ks:List Key) (vs:List Vl)
 deriving Inhabited
def Ob.inl:Ob→Vl
 | .lst xs=>.lst xs
 | .dct ks vs=>.dct ks vs
 | .ins c ns vs=>.obj c ns vs
 | .zU ks vs=>.dct ks vs
abbrev Hs:=List Ob
abbrev Sg:=List (Option Vl)
structure Xc where
 c:Str
 fs:Option (List Str × List Vl)
inductive Res (α:Type) where
 | ok (a:α) (S:Hs) | exc (x:Xc) (S:Hs) | bad
def Res.bind {α β:Type} (r:Res α) (f:α→Hs→Res β):Res β:=match r with
 | .ok a S=>f a S
 | .exc x S=>.exc x S
 | .bad=>.bad
inductive Rv where
 | val (v:Vl) | frs (o:Ob)
inductive Out where
 | nx (η:Sg) (S:Hs) | ret (r:Rv) (S:Hs) | brk (η:Sg) (S:Hs) | cnt (η:Sg) (S:Hs) | exc (x:Xc) (η:Sg) (S:Hs) | bad
structure bB where
 K:PySem.W.Frag
 cl:Str→Addr
 xl:Str→Addr
 er:Option (Addr × Value × Option Addr)
mutual
def Vl.lim (n:Nat):Vl→Bool
 | .tup xs | .lst xs | .dct _ xs | .obj _ _ xs | .err _ _ xs=>aV n xs
 | .ref r=>r<n
 | _=>true
def aV (n:Nat):List Vl→Bool
 | []=>true
 | x::xs=>Vl.lim n x&&aV n xs
end
section
variable (G:bB) (ρ:List Addr) (H:Hp)
def StL (a:Addr) (vs:List V):Prop:=Rd H a (.lst vs)∧a∉ρ
def StT (a:Addr) (vs:List V):Prop:=(Rd H a (.tup vs)∧a∉ρ)∨(SqT G.K (fun _=>none) a vs)
mutual
def VR:Vl→V→Prop
 | .non,v=>v=.non
 | .bl b,v=>v=.bl b
 | .int i,v=>v=.int i
 | .str s,v=>v=.str s
 | .tup xs,v=>∃ a vs,v=.ref a∧StT G ρ H a vs∧au xs vs
 | .lst xs,v=>∃ a vs,v=.ref a∧StL ρ H a vs∧au xs vs
 | .dct ks xs,v=>∃ a kvs,v=.ref a∧Rd H a (.dK kvs)∧a∉ρ∧kvs.map (·.1)=ks∧au xs (kvs.map (·.2))
 | .obj c ns xs,v=>∃ a dx fs,v=.ref a∧H a=some (.ins (G.cl c) dx fs)∧a∉ρ∧fs.map (·.1)=ns∧au xs (fs.map (·.2))
 | .err c ns xs,v=>∃ a d,v=.ref a∧G.er=some (a,.ref (G.xl c),d)∧((d=none∧xs=[])∨∃ dd fs,d=some dd∧H dd=some (.xd fs)∧dd∉ρ∧fs.map (·.1)=ns∧au xs (fs.map (·.2)))
 | .ref r,v=>∃ a,v=.ref a∧ρ[r]? =some a
def au:List Vl→List V→Prop
 | [],vs=>vs=[]
 | x::xs,vs=>∃ v r,vs=v::r∧VR x v∧au xs r
end
def OR (a:Addr):Ob→Prop
 | .lst xs=>∃ vs,H a=some (.lst vs)∧au G ρ H xs vs
 | .dct ks xs=>∃ kvs,H a=some (.dK kvs)∧kvs.map (·.1)=ks∧au G ρ H xs (kvs.map (·.2))
 | .ins c ns xs=>∃ dx fs,H a=some (.ins (G.cl c) dx fs)∧fs.map (·.1)=ns∧au G ρ H xs (fs.map (·.2))
 | .zU ks xs=>∃ kvs od,H a=some (.frz od (.dK kvs))∧kvs.map (·.1)=ks∧au G ρ H xs (kvs.map (·.2))
structure bf (S:Hs):Prop where
 len:ρ.length=S.length
 nd:ρ.Nodup
 at_:∀ (r:Nat) (o:Ob) (a:Addr),S[r]? =some o→ρ[r]? =some a→OR G ρ H a o
structure ER (η:Sg) (σ:L2.St):Prop where
 len:η.length=σ.length
 at_:∀ (i:Nat) (x:Vl),η[i]? =some (some x)→∃ v,σ[i]? =some (some v)∧VR G ρ H x v
end
structure Step (ρ:List Addr) (H:Hp) (ρ':List Addr) (H':Hp):Prop where
 pre:ρ<+:ρ'
 keep:∀ a o,H a=some o→a∉ρ→H' a=some o
 new:∀ a,a∈ρ'→a∈ρ∨H a=none
 fz:∀ a od u,H a=some (.frz od u)→H' a=some (.frz od u)
theorem Step.refl (ρ:List Addr) (H:Hp):Step ρ H ρ H:=⟨List.prefix_refl _,fun _ _ h _=>h,fun _ h=>.inl h,fun _ _ _ h=>h⟩
theorem Step.trans {ρ ρ1 ρ2:List Addr} {H H1 H2:Hp} (a:Step ρ H ρ1 H1) (b:Step ρ1 H1 ρ2 H2):Step ρ H ρ2 H2:=by
 refine ⟨a.pre.trans b.pre,fun x o h n=> ?_,fun x h=> ?_,fun x od u h=>b.fz x od u (a.fz x od u h)⟩
 ·have n1:x∉ρ1:=fun q=>(a.new x q).elim n fun z=>by rw [h] at z;cases z
  exact b.keep x o (a.keep x o h n) n1
 ·rcases b.new x h with h | h
  ·exact a.new x h
  ·by_cases n:x∈ρ
   ·exact .inl n
   ·refine .inr ?_
    cases q:H x with
    | none=>rfl
    | some o=>rw [a.keep x o q n] at h;cases h
theorem Step.out {ρ ρ':List Addr} {H H':Hp} (a:Step ρ H ρ' H') {x:Addr} {o:HO} (h:H x=some o) (n:x∉ρ):x∉ρ':=fun q=>(a.new x q).elim n fun z=>by rw [h] at z;cases z
structure jV (ρ:List Addr) (H:Hp) (ρ':List Addr) (H':Hp):Prop where
 pre:ρ<+:ρ'
 keep:∀ a o,H a=some o→a∉ρ→(∀ φ,o≠.ext φ)→H' a=some o
 ext:∀ a φ,H a=some (.ext φ)→a∉ρ→∃ ψ,H' a=some (.ext ψ)
 new:∀ a,a∈ρ'→a∈ρ∨H a=none
 fz:∀ a od u,H a=some (.frz od u)→H' a=some (.frz od u)
theorem Step.x {ρ ρ':List Addr} {H H':Hp} (a:Step ρ H ρ' H'):jV ρ H ρ' H':=⟨a.pre,fun x o h n _=>a.keep x o h n,fun x φ h n=>⟨φ,a.keep x _ h n⟩,a.new,a.fz⟩
theorem jV.trans {ρ ρ1 ρ2:List Addr} {H H1 H2:Hp} (a:jV ρ H ρ1 H1) (b:jV ρ1 H1 ρ2 H2):jV ρ H ρ2 H2:=by
 have there:∀ x o,H x=some o→x∉ρ→∃ u,H1 x=some u:=fun x o h n=>by
  by_cases e:∃ φ,o=.ext φ
  ·obtain ⟨φ,rfl⟩:=e
   obtain ⟨ψ,q⟩:=a.ext x φ h n
   exact ⟨_,q⟩
  ·exact ⟨o,a.keep x o h n fun φ q=>e ⟨φ,q⟩⟩
 have n1:∀ x o,H x=some o→x∉ρ→x∉ρ1:=fun x o h n q=>(a.new x q).elim n fun z=>by rw [h] at z;cases z
 refine ⟨a.pre.trans b.pre,fun x o h n e=>b.keep x o (a.keep x o h n e) (n1 x o h n) e,fun x φ h n=> ?_,fun x h=> ?_,fun x od u h=>b.fz x od u (a.fz x od u h)⟩
 ·obtain ⟨ψ,q⟩:=a.ext x φ h n
  exact b.ext x ψ q (n1 x _ h n)
 ·rcases b.new x h with h | h
  ·exact a.new x h
  ·by_cases n:x∈ρ
   ·exact .inl n
   ·refine .inr ?_
    cases q:H x with
    | none=>rfl
    | some o=>
     obtain ⟨u,hu⟩:=there x o q n
     rw [hu] at h;cases h
theorem jV.out {ρ ρ':List Addr} {H H':Hp} (a:jV ρ H ρ' H') {x:Addr} {o:HO} (h:H x=some o) (n:x∉ρ):x∉ρ':=fun q=>(a.new x q).elim n fun z=>by rw [h] at z;cases z
section
variable {G:bB} {ρ ρ':List Addr} {H H':Hp}
theorem jV.rd (a:jV ρ H ρ' H') {x:Addr} {o:HO} (hx:∀ φ,o≠.ext φ) (h:Rd H x o∧x∉ρ):Rd H' x o∧x∉ρ':=by
 obtain ⟨h,n⟩:=h
 rcases h with h | ⟨ob,h⟩
 ·exact ⟨.inl (a.keep _ _ h n hx),a.out h n⟩
 ·exact ⟨.inr ⟨ob,a.keep _ _ h n (by intro φ q;cases q)⟩,a.out h n⟩
theorem StL.fV (a:jV ρ H ρ' H') {x:Addr} {vs:List V} (h:StL ρ H x vs):StL ρ' H' x vs:=a.rd (by intro φ q;cases q) h
theorem StT.fV (a:jV ρ H ρ' H') {x:Addr} {vs:List V} (h:StT G ρ H x vs):StT G ρ' H' x vs:=h.imp (a.rd (by intro φ q;cases q)) id
theorem StL.sq {K:PySem.W.Frag} {x:Addr} {vs:List V} (h:StL ρ H x vs):SqL K H x vs:=.inl h.1
theorem StT.sq {x:Addr} {vs:List V} (h:StT G ρ H x vs):SqT G.K H x vs:=by
 rcases h with ⟨h,_⟩ | h
 ·exact .inl h
 ·rcases h with (h | ⟨_,h⟩) | h
  ·cases h
  ·cases h
  ·exact .inr h
mutual
theorem VR.fV (a:jV ρ H ρ' H'):∀ (x:Vl) (v:V),VR G ρ H x v→VR G ρ' H' x v
 | .non,_,h | .bl _,_,h | .int _,_,h | .str _,_,h=>by simpa only [VR] using h
 | .tup xs,v,h=>by
  simp only [VR] at h ⊢
  obtain ⟨p,vs,e,h1,h2⟩:=h
  exact ⟨p,vs,e,h1.fV a,au.fV a xs vs h2⟩
 | .lst xs,v,h=>by
  simp only [VR] at h ⊢
  obtain ⟨p,vs,e,h1,h2⟩:=h
  exact ⟨p,vs,e,h1.fV a,au.fV a xs vs h2⟩
 | .dct ks xs,v,h=>by
  simp only [VR] at h ⊢
  obtain ⟨p,kvs,e,h1,n,h2,h3⟩:=h
  have h4:=a.rd (by intro φ q;cases q) ⟨h1,n⟩
  exact ⟨p,kvs,e,h4.1,h4.2,h2,au.fV a xs _ h3⟩
 | .obj c ns xs,v,h=>by
  simp only [VR] at h ⊢
  obtain ⟨p,dx,fs,e,h1,n,h2,h3⟩:=h
  exact ⟨p,dx,fs,e,a.keep _ _ h1 n (by intro φ q;cases q),a.out h1 n,h2,au.fV a xs _ h3⟩
 | .err c ns xs,v,h=>by
  simp only [VR] at h ⊢
  obtain ⟨p,d,e,hg,q⟩:=h
  refine ⟨p,d,e,hg,q.imp id fun ⟨dd,fs,e1,h1,n,h2,h3⟩=>⟨dd,fs,e1,a.keep _ _ h1 n (by intro φ q;cases q),a.out h1 n,h2,au.fV a xs _ h3⟩⟩
 | .ref r,v,h=>by
  simp only [VR] at h ⊢
  obtain ⟨p,e,h1⟩:=h
  obtain ⟨t,ht⟩:=a.pre
  exact ⟨p,e,by rw [← ht];exact (List.getElem?_append_left (List.getElem?_eq_some_iff.mp h1).1).trans h1⟩
theorem au.fV (a:jV ρ H ρ' H'):∀ (xs:List Vl) (vs:List V),au G ρ H xs vs→au G ρ' H' xs vs
 | [],_,h=>by simpa only [au] using h
 | x::xs,vs,h=>by
  simp only [au] at h ⊢
  obtain ⟨v,r,e,h1,h2⟩:=h
  exact ⟨v,r,e,VR.fV a x v h1,au.fV a xs r h2⟩
end
theorem StL.step (a:Step ρ H ρ' H') {x:Addr} {vs:List V} (h:StL ρ H x vs):StL ρ' H' x vs:=h.fV a.x
theorem StT.step (a:Step ρ H ρ' H') {x:Addr} {vs:List V} (h:StT G ρ H x vs):StT G ρ' H' x vs:=h.fV a.x
theorem Step.rd (a:Step ρ H ρ' H') {x:Addr} {o:HO} (h:Rd H x o∧x∉ρ):Rd H' x o∧x∉ρ':=by
 obtain ⟨h,n⟩:=h
 rcases h with h | ⟨ob,h⟩
 ·exact ⟨.inl (a.keep _ _ h n),a.out h n⟩
 ·exact ⟨.inr ⟨ob,a.keep _ _ h n⟩,a.out h n⟩
theorem VR.step (a:Step ρ H ρ' H') (x:Vl) (v:V) (h:VR G ρ H x v):VR G ρ' H' x v:=VR.fV a.x x v h
theorem au.step (a:Step ρ H ρ' H') (xs:List Vl) (vs:List V) (h:au G ρ H xs vs):au G ρ' H' xs vs:=au.fV a.x xs vs h
theorem ER.fV (a:jV ρ H ρ' H') {η:Sg} {σ:L2.St} (h:ER G ρ H η σ):ER G ρ' H' η σ:=⟨h.len,fun i x e=>let ⟨v,h1,h2⟩:=h.at_ i x e;⟨v,h1,h2.fV a⟩⟩
theorem ER.step (a:Step ρ H ρ' H') {η:Sg} {σ:L2.St} (h:ER G ρ H η σ):ER G ρ' H' η σ:=h.fV a.x
theorem au.length:∀ {xs:List Vl} {vs:List V},au G ρ H xs vs→xs.length=vs.length
 | [],_,h=>by simp only [au] at h;subst h;rfl
 | x::xs,vs,h=>by
  simp only [au] at h
  obtain ⟨v,r,rfl,h1,h2⟩:=h
  simp [au.length h2]
theorem au.get:∀ {xs:List Vl} {vs:List V} {i:Nat} {x:Vl},au G ρ H xs vs→xs[i]? =some x→∃ v,vs[i]? =some v∧VR G ρ H x v
 | [],_,_,_,_,e=>by simp at e
 | y::xs,vs,0,x,h,e=>by
  simp only [au] at h
  obtain ⟨v,r,rfl,h1,h2⟩:=h
  simp at e;subst e
  exact ⟨v,by simp,h1⟩
 | y::xs,vs,i+1,x,h,e=>by
  simp only [au] at h
  obtain ⟨v,r,rfl,h1,h2⟩:=h
  obtain ⟨w,e1,e2⟩:=au.get (i:=i) h2 (by simpa using e)
  exact ⟨w,by simpa using e1,e2⟩
theorem au.append:∀ {xs ys:List Vl} {vs ws:List V},au G ρ H xs vs→au G ρ H ys ws→au G ρ H (xs++ys) (vs++ws)
 | [],ys,vs,ws,h,k=>by simp only [au] at h;subst h;exact k
 | x::xs,ys,vs,ws,h,k=>by
  simp only [au] at h
  obtain ⟨v,r,rfl,h1,h2⟩:=h
  show au G ρ H (x::(xs++ys)) (v::(r++ws))
  simp only [au]
  exact ⟨v,_,rfl,h1,au.append h2 k⟩
theorem au.nil:au G ρ H [] []:=by simp only [au]
theorem au.cons {x:Vl} {xs:List Vl} {v:V} {vs:List V} (h:VR G ρ H x v) (k:au G ρ H xs vs):au G ρ H (x::xs) (v::vs):=by simp only [au];exact ⟨v,vs,rfl,h,k⟩
theorem au.of_get:∀ {xs:List Vl} {vs:List V},xs.length=vs.length→(∀ (i:Nat) (x:Vl) (v:V),xs[i]? =some x→vs[i]? =some v→VR G ρ H x v)→au G ρ H xs vs
 | [],[],_,_=>au.nil
 | [],_::_,h,_=>by simp at h
 | _::_,[],h,_=>by simp at h
 | x::xs,v::vs,h,k=>au.cons (k 0 x v rfl rfl) (au.of_get (by simpa using h) fun i y w e1 e2=>k (i+1) y w (by simpa using e1) (by simpa using e2))
theorem au.take (n:Nat) {xs:List Vl} {vs:List V} (h:au G ρ H xs vs):au G ρ H (xs.take n) (vs.take n):=au.of_get (by simp [h.length]) fun i x v e1 e2=>by
 rw [List.getElem?_take] at e1 e2
 split at e1
 ·rename_i c
  rw [if_pos c] at e2
  obtain ⟨w,e3,e4⟩:=h.get e1
  rw [e2] at e3;cases e3
  exact e4
 ·cases e1
theorem au.drop (n:Nat) {xs:List Vl} {vs:List V} (h:au G ρ H xs vs):au G ρ H (xs.drop n) (vs.drop n):=au.of_get (by simp [h.length]) fun i x v e1 e2=>by
 rw [List.getElem?_drop] at e1 e2
 obtain ⟨w,e3,e4⟩:=h.get e1
 rw [e2] at e3;cases e3
 exact e4
end
end Oz
namespace Oz
open PySem L2
mutual
inductive Tg where
 | nm (i:Nat) | tp (ts:V2)
inductive V2 where
 | nil | cons (t:Tg) (ts:V2)
end
inductive B1 where
 | len | all | any | tuple | repr | str | int | sum | max
inductive Tm where
 | join | index | count | part
inductive Mm where
 | append | pop | Px | clear | extend | insert
inductive Pth where
 | nm (i:Nat) | fl (i:Nat) (f:Str)
inductive Dk where
 | keys | items
mutual
inductive E where
 | var (i:Nat) | cst (v:Vl)
 | bin (op:Operator) (a b:E) | cmp (op:CmpOp) (a b:E) | Ru (p q:CmpOp) (a b c:E)
 | band (a b:E) | bor (a b:E) | pK (a:E) | tru (a:E) | neg (a:E)
 | ite (t a b:E)
 | tup (es:Es)
 | idx (a i:E) | Cu (a:E) (lo hi:Oe)
 | kin (g:Str) (ng:Bool) (a:E) | alH (g:Str) (a:E)
 | b1 (f:B1) (a:E)
 | isD (a:E) | isL (a:E) | ahm (a:E) | isC (c:Str) (a:E)
 | call (q:Str) (es:Es) | Zf (c m:Str) (a:E) (es:Es)
 | fld (a:E) (f:Str)
 | tm (m:Tm) (a b:E)
 | mut (m:Mm) (a:E) (es:Es)
 | agT (c:Str) (a:E) | oeq (c:Str) (ng:Bool) (a b:E)
 | inl (f:F) | Cz (f:F) | bad
 | fs (es:Es) | Ko (c:Str) (a:E) | mn (a b:E)
 | orv (a b:E) | akG (c:Str) (a b:E) | leq (c:Str) (a b:E) | mx (a b:E) | xP (c:Str) (a:E) | xf (a:E) (f:Str) | aaL (a b:E) | ab2 (a b:E) | ext (a b:E)
 | lset (a:E) | aiw (a:E) | akC (own:List Nat) (jr:E) (t:Tg) (s:Src) (lM:Es) | dgt (a k d:E) | aly (a k:E)
 | lsc (own:List Nat) (jr:E) (t:Tg) (s:Src) (lM:Es) | mxd (a d:E) | alm (c:Str) (es:Es) | alT (a:E) | akb (own:List Nat) (jr:E) (t:Tg) (s:Src) (lM:Es) | Vi (a:E) (y z:Str) | replL (a:E) (y z0 z1 z2 z3:Str) (i:E)
inductive F where
 | lst (es:Es) | cat (a b:E) | rep (a b:E) | slc (a:E) (lo hi:Oe) | cpy (a:E) | srt (a:E)
 | comp (own:List Nat) (jr:E) (t:Tg) (s:Src) (lM:Es)
 | V9 (own:List Nat) (jr:E) (t:Tg) (s:Src)
 | call (q:Str) (es:Es) | Zf (c m:Str) (a:E) (es:Es)
 | dsp (ks:List Str) (vs:Es) | new (c:Str) (es:Es)
 | split (a b:E) | akX (a:E) | afK (own:List Nat) (jr:E) (t:Tg) (s:Src) (lM:Es) (Qm:List Nat) (t1:Tg) (s1:Src) (RN:Es) | bad
 | zq (ks:List Key) (vs:Es) | alG (es:Es) | Ji (own:List Nat) (ke ve:E) (t:Tg) (s:Src) (lM:Es) | yg (own:List Nat) (jr:E) (t:Tg) (i:Nat) (lM:Es)
 | YK (a:E) | Yc (a:E) | alW (a:E) | itl (a:E) | vll (a:E) | kyl (a:E) | dcp (a:E) | rev (a:E)
 | aif (own:List Nat) (jr:E) (t:Tg) (s:Src) (lM:Es) (Qm:List Nat) (t1:Tg) (s1:Src) (RN:Es)
 | akd (own:List Nat) (jr:E) (t:Tg) (k:Dk) (p:Pth) (lM:Es) | afC (own:List Nat) (ke ve:E) (t:Tg) (k:Dk) (p:Pth) (lM:Es)
inductive Src where
 | sq (e:E) | yC (e:E) | amf (a b:E) | YX (e:E) (st:Int) | zip (a b:E) | chars (e:E) | items (e:E)
inductive Es where
 | nil | cons (e:E) (es:Es)
inductive Oe where
 | none | some (e:E)
end
mutual
inductive C where
 | asg (t:Tg) (e:E) | star (is:List Nat) (i:Nat) (e:E) | par (i j:Nat) (a b:E)
 | fset (a:E) (f:Str) (e:E) | uP (o i e:E) | Vs (o1 i1 o2 i2 e:E) | ajq (a1:E) (f1:Str) (a2:E) (f2:Str) (e:E) | aje (i:Nat) (t:Tg) (e:E)
 | aug (i:Nat) (op:Operator) (e:E)
 | ex (e:E) | ret (e:E) | Yq (f:F) | alh
 | ite (t:E) (a b:Cs)
 | for_ (t:Tg) (s:Src) (b:Cs) | whl (t:E) (b:Cs) | alb (t:Tg) (k:Dk) (p:Pth) (b:Cs)
 | raise (c:Str) (es:Es) | try_ (b:Cs) (c:Str) (i:Nat) (h:Cs) | akE (b:Cs) (c1 c2:Str) (i:Nat) (h:Cs) | akR (b:Cs) (c1 c2 c3:Str) (i:Nat) (h:Cs) | fin (b h:Cs) | Tv (b:Cs) (l:List Str) (h:Cs)
 | pass | brk | cnt | bad
inductive Cs where
 | nil | cons (c:C) (cs:Cs)
end
structure aF where
 cal:Str→List Vl→Hs→Res Rv
 kd:Str→Option (List (Str × Vl))
 fuel:Nat
 sub:Str→Str→Option Bool
 xi:Str→Option (Option Str)
mutual
def Vl.dO (f:Nat→Vl):Vl→Vl
 | .tup xs=>.tup (jn f xs)
 | .lst xs=>.lst (jn f xs)
 | .dct ks xs=>.dct ks (jn f xs)
 | .obj c ns xs=>.obj c ns (jn f xs)
 | .err c ns xs=>.err c ns (jn f xs)
 | .ref r=>f r
 | .non=>.non | .bl b=>.bl b | .int i=>.int i | .str s=>.str s
def jn (f:Nat→Vl):List Vl→List Vl
 | []=>[]
 | x::xs=>Vl.dO f x::jn f xs
end
def rO:Nat→Hs→Vl→Vl
 | 0,_,v=>v.dO .ref
 | k+1,S,v=>v.dO fun r=>match S[r]? with
  | some o=>rO k S o.inl
  | none=>.ref r
mutual
def Vl.toD:Vl→Option PyData
 | .non=>some .none
 | .bl b=>some (.bool b)
 | .int i=>some (.int i)
 | .str s=>some (.str s)
 | .tup xs=>(tL xs).map .tuple
 | .lst xs=>(tL xs).map .list
 | _=>none
def tL:List Vl→Option (List PyData)
 | []=>some []
 | x::xs=>match Vl.toD x,tL xs with
  | some d,some ds=>some (d::ds)
  | _,_=>none
end
def ajK:Nat:=4
def dataOf (S:Hs) (v:Vl):Option PyData:=(rO ajK S v).toD
def cV (S:Hs):Vl→Option (List Vl)
 | .tup xs=>some xs
 | .lst xs=>some xs
 | .ref r=>match S[r]? with
  | some (.lst xs)=>some xs
  | _=>none
 | _=>none
def bV (S:Hs):Vl→Option (List Vl)
 | .lst xs=>some xs
 | .ref r=>match S[r]? with
  | some (.lst xs)=>some xs
  | _=>none
 | _=>none
def qp (S:Hs):Vl→Option Nat
 | .ref r=>match S[r]? with
  | some (.lst _)=>some r
  | _=>none
 | _=>none
def aX (S:Hs):Vl→Option (List Key × List Vl)
 | .dct ks xs=>some (ks,xs)
 | .ref r=>match S[r]? with
  | some (.dct ks xs)=>some (ks,xs)
  | some (.zU ks xs)=>some (ks,xs)
  | _=>none
 | _=>none
def lD (S:Hs):Vl→Option (Str × List Str × List Vl)
 | .obj c ns xs=>some (c,ns,xs)
 | .ref r=>match S[r]? with
  | some (.ins c ns xs)=>some (c,ns,xs)
  | _=>none
 | _=>none
def Vl.key:Vl→Option Key
 | .int i=>some (.inl i)
 | .str s=>some (.inr s)
 | _=>none
def cG {κ:Type} [DecidableEq κ]:List κ→List Vl→κ→Option Vl
 | k::ks,v::vs,x=>if k=x then some v else cG ks vs x
 | _,_,_=>none
def Fy {κ:Type} [DecidableEq κ]:List κ→List Vl→κ→Vl→List κ × List Vl
 | k::ks,v::vs,x,y=>if k=x then (k::ks,y::vs) else let r:=Fy ks vs x y;(k::r.1,v::r.2)
 | _,_,x,y=>([x],[y])
def Vl.flat:Vl→Bool
 | .non | .bl _ | .int _ | .str _=>true
 | _=>false
def eqF:Vl→Vl→Bool
 | .non,.non=>true
 | .bl a,.bl b=>a==b
 | .bl a,.int b=>(if a then 1 else 0)==b
 | .int a,.bl b=>a==(if b then 1 else 0)
 | .int a,.int b=>a==b
 | .str a,.str b=>a==b
 | _,_=>false
def Vl.isNon:Vl→Bool
 | .non=>true
 | _=>false
def Vq (i j:Int):Bool:=(-(2 ^ 64)<i&&i<2 ^ 64) || (-(2 ^ 64)<j&&j<2 ^ 64)
def binop (op:Operator) (x y:Vl):Option Vl:=match op,x,y with
 | .Add,.int i,.int j=>some (.int (i+j))
 | .Add,.str i,.str j=>if i.length+j.length≤sizeLine then some (.str (i++j)) else none
 | .Add,.tup xs,.tup ys=>if xs.length+ys.length≤sizeLine then some (.tup (xs++ys)) else none
 | .Sub,.int i,.int j=>some (.int (i - j))
 | .Mult,.int i,.int j=>if Vq i j then some (.int (i* j)) else none
 | .Mult,.tup xs,.int n=>if xs≠[]∧0≤n∧n≤1000∧xs.length≤1000 then some (.tup (List.replicate n.toNat xs).flatten) else none
 | .FloorDiv,.int i,.int j=>if 0<j∧j<1073741824 then some (.int (i / j)) else none
 | .Mod,.int i,.int j=>if 0<j then some (.int (i%j)) else none
 | .Pow,.int i,.int j=>if 0≤j∧j≤1000000∧i.natAbs<2 ^ 64 then some (.int (i ^ j.toNat)) else none
 | _,_,_=>none
def aaT (S:Hs) (x y:Vl):Option Bool:=match bV S x,bV S y with
 | some xs,some ys=>if xs.length=ys.length then none else some false
 | _,_=>none
def ph (S:Hs) (x y:Vl):Option Bool:=match dataOf S x,dataOf S y with
 | some d,some e=>if SeqAt.shaped d∧SeqAt.shaped e then some (PyData.eqv d e) else none
 | _,_=>aaT S x y
def Yt:Vl→Vl→Option Bool
 | .int i,.int j=>some (decide (i=j))
 | .bl i,.bl j=>some (decide (i=j))
 | .str i,.str j=>some (decide (i=j))
 | _,_=>none
def hitsD (S:Hs):List Key→List Vl→List Key→List Vl→Option Bool
 | k::ks,v::vs,Ac,vs'=>match cG Ac vs' k with
  | none=>some false
  | some w=>match Yt v w with
   | some e=>(hitsD S ks vs Ac vs').map fun b=>e&&b
   | none=>none
 | _,_,_,_=>some true
def vR (S:Hs) (x y:Vl):Option Bool:=match aX S x,aX S y with
 | some (ks,vs),some (Ac,vs')=>if ks.length=Ac.length then hitsD S ks vs Ac vs' else some false
 | _,_=>none
def Xg (S:Hs) (x y:Vl):Option Bool:=match aX S x,aX S y with
 | some (ks,_),some ([],_)=>some (!ks.isEmpty)
 | _,_=>none
def yh (S:Hs) (x y:Vl):Option Bool:=match Yt x y with
 | some b=>some b
 | none=>match vR S x y with
  | some b=>some b
  | none=>ph S x y
def lU (S:Hs) (x y:Vl):Option Bool:=match y with
 | .str z=>match x with
  | .str w=>if w.length=1 then some (decide (w.cps.getD 0 0∈z.cps.toList)) else none
  | _=>none
 | _=>match aX S y with
  | some (ks,_)=>x.key.map fun k=>ks.any fun j=>decide (j=k)
  | none=>match cV S y with
   | some ys=>if x.flat&&ys.all Vl.flat then some (ys.any fun z=>eqF z x) else match dataOf S x,dataOf S y with
    | some d,some (.list ds)=>if SeqAt.shaped d=true∧SeqAt.shaped (.list ds)=true then some (ds.any fun z=>PyData.eqv z d) else none
    | _,_=>none
   | none=>none
def cmpop (op:CmpOp) (S:Hs) (x y:Vl):Option Bool:=match op with
 | .Eq=>yh S x y
 | .NotEq=>if (vR S x y).isSome then Xg S x y else (yh S x y).map not
 | .Lt=>match x,y with
  | .int i,.int j=>some (decide (i<j))
  | _,_=>none
 | .LtE=>match x,y with
  | .int i,.int j=>some (decide (i≤j))
  | _,_=>none
 | .Gt=>match x,y with
  | .int i,.int j=>some (decide (j<i))
  | _,_=>none
 | .GtE=>match x,y with
  | .int i,.int j=>some (decide (j≤i))
  | _,_=>none
 | .Is=>match y with
  | .non=>some x.isNon
  | .bl b=>match x with
   | .bl a=>some (decide (a=b))
   | _=>none
  | _=>none
 | .IsNot=>match y with
  | .non=>some (!x.isNon)
  | .bl b=>match x with
   | .bl a=>some (!decide (a=b))
   | _=>none
  | _=>none
 | .In=>lU S x y
 | .NotIn=>(lU S x y).map not
def afG:Vl→Option Bool
 | .bl b=>some b
 | _=>none
def truth (S:Hs) (x:Vl):Option Bool:=match x with
 | .non=>some false
 | .bl b=>some b
 | .int i=>some (i !=0)
 | .str y=>if y.length≤sizeLine then some ((y.length:Int) !=0) else none
 | _=>match cV S x with
  | some ys=>some (!ys.isEmpty)
  | none=>none
def allB:List Vl→Option (List Bool)
 | []=>some []
 | x::xs=>match afG x,allB xs with
  | some b,some bs=>some (b::bs)
  | _,_=>none
def Cm:List Vl→Option (List Int)
 | []=>some []
 | .int i::xs=>(Cm xs).map (i::·)
 | _=>none
def uR:List Vl→Option (List Str)
 | []=>some []
 | .str i::xs=>(uR xs).map (i::·)
 | _=>none
def Qs:List Int→Option Int
 | []=>none
 | x::xs=>match Qs xs with
  | none=>some x
  | some m=>some (if x≤m then m else x)
def gY (f:B1) (S:Hs) (x:Vl):Option Vl:=match f with
 | .len=>match x with
  | .str z=>if z.length≤sizeLine then some (.int z.length) else none
  | _=>match aX S x with
   | some (ks,_)=>some (.int ks.length)
   | none=>(cV S x).map fun ys=>.int ys.length
 | .all=>((bV S x).bind allB).map fun bs=>.bl (bs.all id)
 | .any=>((bV S x).bind allB).map fun bs=>.bl (bs.any id)
 | .tuple=>(cV S x).map .tup
 | .repr=>match dataOf S x with
  | some d=>if d.showable=true∧d.shown.length≤sizeLine∧d.canLay0=true∧d.depth≤60 then some (.str d.shown) else none
  | none=>none
 | .str=>match x with
  | .int i=>if i.natAbs.log2<1920 then some (.str (toString i)) else none
  | .str z=>some (.str z)
  | _=>none
 | .int=>match x with
  | .bl b=>some (.int (if b then 1 else 0))
  | .int i=>some (.int i)
  | .str z=>if z.length≤640 then (PySem.intText? z).map .int else none
  | _=>none
 | .sum=>((bV S x).bind Cm).map fun ns=>.int ns.sum
 | .max=>((bV S x).bind Cm).bind fun ns=>(Qs ns).map .int
def dM (S:Hs) (x i:Vl):Option Vl:=match x,i with
 | .str z,.int i=>if z.length≤sizeLine then (atI z.cps.toList i).map fun c=>.str ⟨#[c]⟩ else none
 | x,i=>match aX S x with
  | some (ks,vs)=>i.key.bind fun k=>cG ks vs k
  | none=>match cV S x,i with
   | some ys,.int i=>atI ys i
   | _,_=>none
def uo {α:Type} (xs:List α) (lo hi:Option Int):List α:=(xs.drop (HT.sIx xs.length 0 lo)).take (HT.sIx xs.length xs.length hi - HT.sIx xs.length 0 lo)
def HS (x:Vl) (lo hi:Option Int):Option Vl:=match x with
 | .str z=>if z.length≤sizeLine then some (.str (cutS z lo hi)) else none
 | .tup xs=>some (.tup (uo xs lo hi))
 | _=>none
def Kv (m:Mm) (xs:List Vl) (es:List Vl):Option (Vl × List Vl):=match m,es with
 | .append,[y]=>if xs.length<sizeLine then some (.non,xs++[y]) else none
 | .pop,[]=>match xs[xs.length - 1]? with
  | some y=>some (y,xs.dropLast)
  | none=>none
 | .Px,[.int i]=>if -(2 ^ 63)≤i∧i<2 ^ 63 then (seqIndex? i xs.length).bind fun k=>xs[k]?.map fun y=>(y,xs.eraseIdx k) else none
 | .clear,[]=>some (.non,[])
 | .insert,[.int i,y]=>if xs.length<sizeLine∧0≤i∧i<2 ^ 63 then some (.non,xs.take i.toNat++[y]++xs.drop i.toNat) else none
 | _,_=>none
def yd (m:Tm) (S:Hs) (z:Str) (y:Vl):Option Vl:=match m with
 | .join=>match (cV S y).bind uR with
  | some ys=>if (ys.map (·.length)).sum+ys.length* z.length≤16777216 then some (.str (Txt.join z ys)) else none
  | none=>none
 | .index=>match y with
  | .str w=>(Txt.index0 z w).map fun k=>.int (k:Nat)
  | _=>none
 | .part=>match y with
  | .str w=>if w.length≠0∧z.length≤sizeLine then some (.tup [.str (Txt.partition z w).1,.str (Txt.partition z w).2.1,.str (Txt.partition z w).2.2]) else none
  | _=>none
 | _=>none
def Qc (S:Hs) (x y:Vl):Option Vl:=match dataOf S x,dataOf S y with
 | some (.list ds),some d=>if SeqAt.shaped (.list ds)=true∧SeqAt.shaped d=true then some (.int (ds.countP fun z=>PyData.eqv z d:Nat)) else none
 | _,_=>none
def yK (S:Hs) (x y:Vl):Option Vl:=match dataOf S x,dataOf S y with
 | some (.list ds),some d=>if SeqAt.shaped (.list ds)=true∧SeqAt.shaped d=true then (ds.findIdx? fun z=>PyData.eqv z d).map fun j=>.int (j:Nat) else none
 | _,_=>none
mutual
def Vl.ef:Vl→Bool
 | .tup xs | .lst xs | .dct _ xs | .obj _ _ xs=>Zg xs
 | .err _ _ _=>false
 | _=>true
def Zg:List Vl→Bool
 | []=>true
 | x::xs=>Vl.ef x&&Zg xs
end
def Ob.ef:Ob→Bool
 | .lst xs | .dct _ xs | .ins _ _ xs | .zU _ xs=>Zg xs
def TF (S:Hs):Bool:=S.all Ob.ef
def Y9 (η:Sg):Bool:=η.all fun x=>match x with
 | some v=>v.ef
 | none=>true
def Rv.ef:Rv→Bool
 | .val v=>v.ef
 | .frs o=>o.ef
def Xc.vl (x:Xc):Vl:=match x.fs with
 | none=>.err x.c [] []
 | some (ns,vs)=>.err x.c ns vs
def Ka (a b:Str):Bool:=decide (a.cps.toList<b.cps.toList)
def rN (x:Str):List Str→List Str
 | []=>[x]
 | y::ys=>if Ka y x then y::rN x ys else x::y::ys
def dN:List Str→List Str
 | []=>[]
 | x::xs=>rN x (dN xs)
def insI (x:Int):List Int→List Int
 | []=>[x]
 | y::ys=>if y<x then y::insI x ys else x::y::ys
def sortI:List Int→List Int
 | []=>[]
 | x::xs=>insI x (sortI xs)
def ajm (S:Hs) (x:Vl):Option (List Vl):=match (bV S x).bind uR with
 | some zs=>if zs.length≤100000 then some ((dN zs).map .str) else none
 | none=>match (bV S x).bind Cm with
  | some ns=>some ((sortI ns).map .int)
  | none=>none
def Vl.ahm:Vl→Bool
 | .tup _=>true
 | _=>false
def Py:List Key→Option (List Str)
 | []=>some []
 | .inr z::ks=>(Py ks).map (z::·)
 | .inl _::_=>none
def KQ:List Key→Option (List Int)
 | []=>some []
 | .inl z::ks=>(KQ ks).map (z::·)
 | .inr _::_=>none
def Gq (S:Hs) (x:Vl):Option (List Vl):=match aX S x with
 | some (ks,_)=>match Py ks with
  | some zs=>if zs.length≤100000 then some ((dN zs).map .str) else none
  | none=>match KQ ks with
   | some ns=>if ns.length≤100000 then some ((sortI ns).map .int) else none
   | none=>none
 | none=>none
def UG:List Vl→Option (List (Str × Vl))
 | []=>some []
 | .tup [.str z,y]::xs=>(UG xs).map ((z,y)::·)
 | _=>none
def adY (x:Str × Vl):List (Str × Vl)→List (Str × Vl)
 | []=>[x]
 | y::ys=>if Ka y.1 x.1 then y::adY x ys else x::y::ys
def Q7:List (Str × Vl)→List (Str × Vl)
 | []=>[]
 | x::xs=>adY x (Q7 xs)
def prV (p:Str × Vl):Vl:=.tup [.str p.1,p.2]
def Bf (S:Hs) (x:Vl):Option (List Vl):=match (cV S x).bind UG with
 | some zs=>if zs.length<64∧(zs.map (·.1)).Nodup then some ((Q7 zs).map prV) else none
 | none=>none
def mG (k:Key) (y:Vl):List Key→List Vl→List Vl
 | j::ks,v::vs=>(if j=k then y else v)::mG k y ks vs
 | _,_=>[]
def putD (ks:List Key) (vs:List Vl) (k:Key) (y:Vl):List Key × List Vl:=if (ks.any fun j=>decide (j=k))=true then (ks,mG k y ks vs) else (ks++[k],vs++[y])
def j6:List (Key × Vl)→List Key→List Vl→List Key × List Vl
 | [],ks,vs=>(ks,vs)
 | p::ps,ks,vs=>j6 ps (putD ks vs p.1 p.2).1 (putD ks vs p.1 p.2).2
def aeS:List Vl→Option (List (Key × Vl))
 | []=>some []
 | k::v::r=>match k.key with
  | some kk=>(aeS r).map ((kk,v)::·)
  | none=>none
 | _=>none
def aeM:List Vl→Option (List (Key × Vl))
 | []=>some []
 | .tup [x,y]::xs=>match x.key with
  | some k=>(aeM xs).map ((k,y)::·)
  | none=>none
 | _=>none
def agW (S:Hs) (x:Vl):Option Ob:=match (bV S x).bind aeM with
 | some ps=>let q:=j6 ps [] [];some (.dct q.1 q.2)
 | none=>none
def delD (k:Key):List Key→List Vl→List Key × List Vl
 | j::ks,v::vs=>if j=k then delD k ks vs else (j::(delD k ks vs).1,v::(delD k ks vs).2)
 | _,_=>([],[])
def sU (S:Hs) (x k y:Vl):Option Hs:=match x with
 | .ref r=>match S[r]? with
  | some (.dct ks vs)=>match k.key with
   | some k=>if ks.length<sizeLine then let q:=putD ks vs k y;some (S.set r (.dct q.1 q.2)) else none
   | none=>none
  | some (.lst xs)=>match k with
   | .int i=>match ixN xs.length i with
    | some j=>some (S.set r (.lst (xs.set j y)))
    | none=>none
   | _=>none
  | _=>none
 | _=>none
def zX:Vl→Option Str
 | .str y=>if y.length≤sizeLine then some y else none
 | .int i=>if i.natAbs.log2<1920 then some (toString i) else none
 | _=>none
def qL:List Vl→Str→Option Str
 | [],aQ=>some aQ
 | x::xs,aQ=>match zX x with
  | some y=>if (aQ++y).length≤sizeLine then qL xs (aQ++y) else none
  | none=>none
mutual
def aZ:Tg→Vl→Sg→Option Sg
 | .nm i,x,η=>some (η.set i (some x))
 | .tp ts,x,η=>match x with
  | .tup xs=>lX ts xs η
  | .lst xs=>lX ts xs η
  | _=>none
def lX:V2→List Vl→Sg→Option Sg
 | .nil,[],η=>some η
 | .cons t ts,x::xs,η=>match aZ t x η with
  | some η1=>lX ts xs η1
  | none=>none
 | _,_,_=>none
end
def aaH:List Nat→List Vl→Sg→Option (Sg × List Vl)
 | [],xs,η=>some (η,xs)
 | i::is,x::xs,η=>aaH is xs (η.set i (some x))
 | _::_,[],_=>none
def bR (η:Sg):List Nat→Sg
 | []=>η
 | v::vs=>(bR η vs).set v none
def ig {α:Type} (S:Hs):Option α→Res α
 | some a=>.ok a S
 | none=>.bad
abbrev Lk:=Nat × Ob
def cP (lk:List Lk) (S:Hs):Prop:=∀ p∈lk,S[p.1]? =some p.2
open Classical in
noncomputable def gH (step:Vl→Hs→Res (Option Vl)) (lk:List Lk):List Vl→List Vl→Hs→Res (List Vl)
 | [],aQ,S=>if cP lk S then .ok aQ S else .bad
 | x::xs,aQ,S=>if cP lk S then match step x (S++[.lst aQ]) with
   | .ok o T=>if T=S++[.lst aQ]∧aQ.length<sizeLine then match o with
    | some y=>if y.lim S.length then gH step lk xs (aQ++[y]) S else .bad
    | none=>gH step lk xs aQ S
    else .bad
   | _=>.bad
  else .bad
open Classical in
noncomputable def alp (k:Nat) (S T:Hs) (o:Option Vl):Option Hs:=match T[k]? with
 | some (.lst aQ)=>if S[k]? =some (.lst aQ)∧aQ.length<sizeLine then some (match o with
  | some y=>T.set k (.lst (aQ++[y]))
  | none=>T) else none
 | _=>none
open Classical in
noncomputable def aa8 (step:Vl→Hs→Res (Option Vl)) (lk:List Lk) (k:Nat):List Vl→Hs→Res Unit
 | [],S=>if cP lk S then .ok () S else .bad
 | x::xs,S=>if cP lk S then match step x S with
   | .ok o T=>match alp k S T o with
    | some U=>aa8 step lk k xs U
    | none=>.bad
   | _=>.bad
  else .bad
def Xc.lim (n:Nat) (x:Xc):Bool:=match x.fs with
 | none=>true
 | some (_,vs)=>aV n vs
open Classical in
noncomputable def nZ (step:Vl→Hs→Res (Option Vl)) (lk:List Lk):List Vl→List Vl→Hs→Res (List Vl)
 | [],aQ,S=>if cP lk S then .ok aQ S else .bad
 | x::xs,aQ,S=>if cP lk S then match step x (S++[.lst aQ]) with
   | .ok o T=>if T=S++[.lst aQ]∧aQ.length<sizeLine then match o with
    | some y=>if y.lim S.length then nZ step lk xs (aQ++[y]) S else .bad
    | none=>nZ step lk xs aQ S
    else .bad
   | .exc z T=>if T=S++[.lst aQ]∧z.lim S.length=true then .exc z S else .bad
   | .bad=>.bad
  else .bad
open Classical in
noncomputable def uh (step:Vl→Hs→Res (Option (Vl × Vl))) (lk:List Lk):List Vl→List Key→List Vl→Hs→Res (List Key × List Vl)
 | [],ks,vs,S=>if cP lk S then .ok (ks,vs) S else .bad
 | x::xs,ks,vs,S=>if cP lk S then match step x (S++[.dct ks vs]) with
   | .ok o T=>if T=S++[.dct ks vs]∧ks.length<sizeLine then match o with
    | some (k,y)=>match k.key with
     | some k=>if y.lim S.length then uh step lk xs (putD ks vs k y).1 (putD ks vs k y).2 S else .bad
     | none=>.bad
    | none=>uh step lk xs ks vs S
    else .bad
   | _=>.bad
  else .bad
open Classical in
noncomputable def Tw (start:Vl→Hs→Res (Option (Sg × List Lk × List Vl))) (step:Sg→Vl→Hs→Res (Option Vl)) (lk:List Lk):List Vl→List Vl→Hs→Res (List Vl)
 | [],aQ,S=>if cP lk S then .ok aQ S else .bad
 | x::xs,aQ,S=>if cP lk S then match start x (S++[.lst aQ]) with
   | .ok o T=>if T=S++[.lst aQ] then match o with
    | some q=>(gH (step q.1) q.2.1 q.2.2 aQ S).bind fun abC _=>Tw start step lk xs abC S
    | none=>Tw start step lk xs aQ S
    else .bad
   | _=>.bad
  else .bad
open Classical in
noncomputable def Ce {α:Type} (step:Vl→Hs→Res (List α)) (lk:List Lk):List Vl→Hs→Res (List α)
 | [],S=>if cP lk S then .ok [] S else .bad
 | x::xs,S=>if cP lk S then match step x S with
   | .ok ys T=>if T=S then (Ce step lk xs S).bind fun zs S1=>.ok (ys++zs) S1 else .bad
   | _=>.bad
  else .bad
open Classical in
noncomputable def forL (body:Sg→Hs→Out) (t:Tg) (lk:List Lk):List Vl→Sg→Hs→Out
 | [],η,S=>if cP lk S then .nx η S else .bad
 | x::xs,η,S=>if cP lk S then match aZ t x η with
  | none=>.bad
  | some η1=>match body η1 S with
   | .nx η2 S2=>forL body t lk xs η2 S2
   | .cnt η2 S2=>forL body t lk xs η2 S2
   | .brk η2 S2=>.nx η2 S2
   | o=>o
  else .bad
def FW (test:Sg→Hs→Res Vl) (body:Sg→Hs→Out):Nat→Sg→Hs→Out
 | 0,_,_=>.bad
 | n+1,η,S=>match test η S with
  | .ok (.bl true) S1=>match body η S1 with
   | .nx η2 S2=>FW test body n η2 S2
   | .cnt η2 S2=>FW test body n η2 S2
   | .brk η2 S2=>.nx η2 S2
   | o=>o
  | .ok (.bl false) S1=>.nx η S1
  | .exc x S1=>.exc x η S1
  | _=>.bad
def iH:Int→List Vl→List Vl
 | _,[]=>[]
 | i,x::xs=>.tup [.int i,x]::iH (i+1) xs
def Cv:List Vl→List Vl→List Vl
 | x::xs,y::ys=>.tup [x,y]::Cv xs ys
 | _,_=>[]
def jd (lo:Int):Nat→List Vl
 | 0=>[]
 | n+1=>.int lo::jd (lo+1) n
def bQ:List Key→List Vl→List Vl
 | k::ks,v::vs=>.tup [match k with | .inl i=>.int i | .inr s=>.str s,v]::bQ ks vs
 | _,_=>[]
def lZ (S:Hs):Vl→Option (List Lk × List Vl)
 | .tup xs=>some ([],xs)
 | .lst xs=>some ([],xs)
 | .ref r=>match S[r]? with
  | some (.lst xs)=>some ([(r,.lst xs)],xs)
  | _=>none
 | _=>none
def iI (z:Str):List Vl:=z.cps.toList.map fun c=>.str ⟨#[c]⟩
def Rv.v:Rv→Vl
 | .val v=>v
 | .frs o=>o.inl
def afw (S:Hs):Vl→Option (List Lk × List Vl)
 | .str z=>some ([],iI z)
 | x=>lZ S x
def stepI (l:List Int) (k:Int):List Int:=if k∈l then l else l++[k]
def aiV (ns:List Int):List Int:=ns.foldl stepI []
def Aa:List Str→List Str
 | []=>[]
 | x::xs=>if x∈xs then Aa xs else x::Aa xs
variable (M:aF)
def pX (q:Str) (xs:List Vl) (S:Hs):Res Vl:=(M.cal q xs S).bind fun r S1=>.ok r.v S1
def dot (c m:Str):Str:=c++⟨#[46]⟩++m
def lH (S:Hs) (x:Vl) (c m:Str):Bool:=match lD S x with
 | some (d,ns,_)=>decide (d=c)&& !(ns.contains m)
 | none=>false
def eqY (S:Hs) (c:Str) (y:Vl):Bool:=match lD S y with
 | some (d,_,_)=>decide (d=c)
 | none=>match y with
  | .str _=>true
  | .tup _=>true
  | _=>(bV S y).isSome
def alB (c:Str) (S:Hs) (us ws:List Vl):Prop:=us.length=ws.length∧∀ (i:Nat) (u w:Vl),us[i]? =some u→ws[i]? =some w→lH S u c "__eq__"=true∧lH S w c "__eq__"=true∧pX M (dot c "__eq__") [u,w] S=.ok (.bl true) S
def Rr {α:Type}:Res α→Res α
 | .exc _ _=>.bad
 | r=>r
def Ob.lim (n:Nat):Ob→Bool
 | .lst xs | .dct _ xs | .ins _ _ xs | .zU _ xs=>aV n xs
mutual
def Vl.jZ (f:Nat→Option Vl):Vl→Option Vl
 | .tup xs=>(iY f xs).map .tup
 | .lst xs=>(iY f xs).map .lst
 | .dct ks xs=>(iY f xs).map (.dct ks)
 | .obj c ns xs=>(iY f xs).map (.obj c ns)
 | .err c ns xs=>(iY f xs).map (.err c ns)
 | .ref r=>f r
 | .non=>some .non | .bl b=>some (.bl b) | .int i=>some (.int i) | .str s=>some (.str s)
def iY (f:Nat→Option Vl):List Vl→Option (List Vl)
 | []=>some []
 | x::xs=>(Vl.jZ f x).bind fun y=>(iY f xs).map fun ys=>y::ys
end
def Ob.jZ (f:Nat→Option Vl):Ob→Option Ob
 | .lst xs=>(iY f xs).map .lst
 | .dct ks xs=>(iY f xs).map (.dct ks)
 | .ins c ns xs=>(iY f xs).map (.ins c ns)
 | .zU ks xs=>(iY f xs).map (.zU ks)
def fI (n r0:Nat) (T:Hs):Nat→Nat→Option Vl
 | 0,r=>if r<n then some (.ref r) else none
 | k+1,r=>if r<n then some (.ref r) else if r=r0 then none else match T[r]? with
  | some o=>(o.jZ (fI n r0 T k)).map Ob.inl
  | none=>none
def zQ:Nat:=6
def afF (n:Nat) (T:Hs):Res Ob:=if (T.take n).all (Ob.lim n)=true then (match T[n]? with
  | some o=>match o.jZ (fI n n T zQ) with
   | some o'=>.ok o' (T.take n)
   | none=>.bad
  | none=>.bad)
 else .bad
def Cj (S1:Hs):Res Rv→Res Ob
 | .ok (.val .non) T=>match T.getLast? with
  | some o=>if T.length=S1.length+1∧T.all (Ob.lim S1.length)=true then .ok o T.dropLast else afF S1.length T
  | none=>.bad
 | .exc x T=>if S1.length<T.length∧(T.take S1.length).all (Ob.lim S1.length)=true∧x.lim S1.length=true then .exc x (T.take S1.length) else .bad
 | _=>.bad
def Vt:Key→Vl
 | .inl i=>.int i
 | .inr s=>.str s
def Dk.xs:Dk→List Key→List Vl→List Vl
 | .keys,ks,_=>ks.map Vt
 | .items,ks,vs=>bQ ks vs
def ahv (η:Sg) (S:Hs):Pth→Option Vl
 | .nm i=>match η[i]? with
  | some (some x)=>some x
  | _=>none
 | .fl i f=>match η[i]? with
  | some (some x)=>match lD S x with
   | some (_,ns,vs)=>cG ns vs f
   | none=>none
  | _=>none
structure Hld where
 ks:List Key
 vs:List Vl
 S:Hs
 bk:Option Nat
def hold (S:Hs):Vl→Option Hld
 | .dct ks vs=>some ⟨ks,vs,S,none⟩
 | .ref r=>match S[r]? with
  | some (.dct ks vs)=>some ⟨ks,vs,S.set r (.zU ks vs),some r⟩
  | some (.zU ks vs)=>some ⟨ks,vs,S,none⟩
  | _=>none
 | _=>none
def Xq (bk:Option Nat) (S:Hs):Option Hs:=match bk with
 | none=>some S
 | some r=>match S[r]? with
  | some (.zU ks vs)=>some (S.set r (.dct ks vs))
  | _=>none
def Out.back (bk:Option Nat):Out→Out
 | .nx η S=>match Xq bk S with
  | some T=>.nx η T
  | none=>.bad
 | .ret r S=>match Xq bk S with
  | some T=>.ret r T
  | none=>.bad
 | .brk η S=>match Xq bk S with
  | some T=>.brk η T
  | none=>.bad
 | .cnt η S=>match Xq bk S with
  | some T=>.cnt η T
  | none=>.bad
 | .exc x η S=>if bk.isSome=true then .exc x η S else .bad
 | .bad=>.bad
open Classical in
mutual
noncomputable def ev:E→Sg→Hs→Res Vl
 | .var i,η,S=>match η[i]? with
  | some (some x)=>.ok x S
  | _=>.bad
 | .cst v,_,S=>.ok v S
 | .bin op a b,η,S=>(ev a η S).bind fun x S1=>(ev b η S1).bind fun y S2=>ig S2 (binop op x y)
 | .cmp op a b,η,S=>(ev a η S).bind fun x S1=>(ev b η S1).bind fun y S2=>(ig S2 (cmpop op S2 x y)).bind fun b S3=>.ok (.bl b) S3
 | .Ru p q a b c,η,S=>(ev a η S).bind fun x S1=>(ev b η S1).bind fun y S2=>(ig S2 (cmpop p S2 x y)).bind fun k S3=>
   if k=true then (ev c η S3).bind fun z S4=>(ig S4 (cmpop q S4 y z)).bind fun b S5=>.ok (.bl b) S5 else .ok (.bl false) S3
 | .band a b,η,S=>(ev a η S).bind fun x S1=>match x with
  | .bl true=>ev b η S1
  | .bl false=>.ok (.bl false) S1
  | _=>.bad
 | .bor a b,η,S=>(ev a η S).bind fun x S1=>match x with
  | .bl true=>.ok (.bl true) S1
  | .bl false=>ev b η S1
  | _=>.bad
 | .orv a b,η,S=>(ev a η S).bind fun x S1=>match truth S1 x with
  | some true=>.ok x S1
  | some false=>ev b η S1
  | none=>.bad
 | .pK a,η,S=>(ev a η S).bind fun x S1=>match x with
  | .bl b=>.ok (.bl (!b)) S1
  | _=>.bad
 | .tru a,η,S=>(ev a η S).bind fun x S1=>(ig S1 (truth S1 x)).bind fun b S2=>.ok (.bl b) S2
 | .neg a,η,S=>(ev a η S).bind fun x S1=>match x with
  | .int i=>.ok (.int (-i)) S1
  | _=>.bad
 | .ite t a b,η,S=>(ev t η S).bind fun x S1=>match x with
  | .bl true=>ev a η S1
  | .bl false=>ev b η S1
  | _=>.bad
 | .tup es,η,S=>(evs es η S).bind fun xs S1=>if xs.length≤sizeLine then .ok (.tup xs) S1 else .bad
 | .idx a i,η,S=>(ev a η S).bind fun x S1=>(ev i η S1).bind fun y S2=>ig S2 (dM S2 x y)
 | .Cu a lo hi,η,S=>(ev a η S).bind fun x S1=>(YD lo η S1).bind fun l S2=>(YD hi η S2).bind fun h S3=>ig S3 (HS x l h)
 | .kin g ng a,η,S=>(ev a η S).bind fun x S1=>match x,M.kd g with
  | .str z,some kv=>.ok (.bl (if ng then !(kv.lookup z).isSome else (kv.lookup z).isSome)) S1
  | _,_=>.bad
 | .alH g a,η,S=>(ev a η S).bind fun x S1=>match x,M.kd g with
  | .str z,some kv=>ig S1 (kv.lookup z)
  | _,_=>.bad
 | .b1 f a,η,S=>(ev a η S).bind fun x S1=>ig S1 (gY f S1 x)
 | .isD a,η,S=>(ev a η S).bind fun x S1=>.ok (.bl (aX S1 x).isSome) S1
 | .isL a,η,S=>(ev a η S).bind fun x S1=>.ok (.bl (bV S1 x).isSome) S1
 | .ahm a,η,S=>(ev a η S).bind fun x S1=>.ok (.bl x.ahm) S1
 | .isC c a,η,S=>(ev a η S).bind fun x S1=>match lD S1 x with
  | some (d,_,_)=>if c=d then .ok (.bl true) S1 else .bad
  | none=>.ok (.bl false) S1
 | .call q es,η,S=>(evs es η S).bind fun xs S1=>pX M q xs S1
 | .Zf c m a es,η,S=>(ev a η S).bind fun x S1=>if lH S1 x c m then (evs es η S1).bind fun xs S2=>pX M (dot c m) (x::xs) S2 else .bad
 | .fld a f,η,S=>(ev a η S).bind fun x S1=>match lD S1 x with
  | some (_,ns,vs)=>ig S1 (cG ns vs f)
  | none=>.bad
 | .tm m a b,η,S=>(ev a η S).bind fun x S1=>match x with
  | .str z=>(ev b η S1).bind fun y S2=>ig S2 (yd m S2 z y)
  | _=>.bad
 | .mut m a es,η,S=>(ev a η S).bind fun x S1=>match qp S1 x with
  | some r=>(evs es η S1).bind fun xs S2=>match S2[r]? with
   | some (.lst ys)=>match Kv m ys xs with
    | some (v,zs)=>.ok v (S2.set r (.lst zs))
    | none=>.bad
   | _=>.bad
  | none=>.bad
 | .agT c a,η,S=>(ev a η S).bind fun x S1=>if lH S1 x c "__len__" then (Rr (pX M (dot c "__len__") [x] S1)).bind fun v S2=>match v with
   | .int n=>if 0≤n∧n<2 ^ 63 then .ok (.int n) S2 else .bad
   | _=>.bad
  else .bad
 | .oeq c ng a b,η,S=>(ev a η S).bind fun x S1=>(ev b η S1).bind fun y S2=>if lH S2 x c "__eq__"&&eqY S2 c y then (Rr (pX M (dot c "__eq__") [x,y] S2)).bind fun v S3=>match v with
   | .bl d=>.ok (.bl (if ng then !d else d)) S3
   | _=>.bad
  else .bad
 | .akG c a b,η,S=>(ev a η S).bind fun x S1=>(ev b η S1).bind fun y S2=>match bV S2 x,bV S2 y with
  | some [u],some [w]=>if lH S2 u c "__eq__"&&lH S2 w c "__eq__" then (match pX M (dot c "__eq__") [u,w] S2 with
    | .ok (.bl true) S3=> @ite _ (S3=S2) (Classical.propDecidable _) (.ok (.bl false) S2) .bad
    | _=>.bad) else .bad
  | _,_=>.bad
 | .leq c a b,η,S=>(ev a η S).bind fun x S1=>(ev b η S1).bind fun y S2=>match x,y with
  | .non,.non=>.ok (.bl true) S2
  | x,y=>match bV S2 x,bV S2 y with
   | some us,some ws=> @ite _ (alB M c S2 us ws) (Classical.propDecidable _) (.ok (.bl true) S2) .bad
   | _,_=>.bad
 | .fs es,η,S=>(Rr (evs es η S)).bind fun xs S1=>(ig S1 (qL xs Str.empty)).bind fun z S2=>.ok (.str z) S2
 | .mn a b,η,S=>(ev a η S).bind fun x S1=>(ev b η S1).bind fun y S2=>match x,y with
  | .int i,.int j=>.ok (.int (if j<i then j else i)) S2
  | _,_=>.bad
 | .mx a b,η,S=>(ev a η S).bind fun x S1=>(ev b η S1).bind fun y S2=>match x,y with
  | .int i,.int j=>.ok (.int (if j>i then j else i)) S2
  | _,_=>.bad
 | .ext a b,η,S=>(ev a η S).bind fun x S1=>match qp S1 x with
  | some r=>(ev b η S1).bind fun y S2=>match S2[r]?,y with
   | some (.lst ys),.ref q=>match S2[q]? with
    | some (.lst zs)=>if ys.length+zs.length≤sizeLine then .ok .non (S2.set r (.lst (ys++zs))) else .bad
    | _=>.bad
   | _,_=>.bad
  | none=>.bad
 | .xP c a,η,S=>(ev a η S).bind fun x S1=>match x with
  | .err d _ _=>ig S1 ((M.sub d c).map .bl)
  | _=>.bad
 | .xf a f,η,S=>(ev a η S).bind fun x S1=>match x with
  | .err d ns vs=>if M.xi d=some (some f) then ig S1 (cG ns vs f) else .bad
  | _=>.bad
 | .aaL a b,η,S=>(ev a η S).bind fun x S1=>if (bV S1 x).isSome=true then (ev b η S1).bind fun y S2=>ig S2 (Qc S2 x y) else .bad
 | .ab2 a b,η,S=>(ev a η S).bind fun x S1=>if (bV S1 x).isSome=true then (ev b η S1).bind fun y S2=>ig S2 (yK S2 x y) else .bad
 | .lset a,η,S=>(ev a η S).bind fun x S1=>match (bV S1 x).bind uR with
  | some zs=>if zs.length<64 then .ok (.int ((Aa zs).length:Nat)) S1 else .bad
  | none=>.bad
 | .aiw a,η,S=>(ev a η S).bind fun x S1=>match (bV S1 x).bind Cm with
  | some zs=>if zs.length<64 then .ok (.int ((aiV zs).length:Nat)) S1 else .bad
  | none=>.bad
 | .Vi a y z,η,S=>(ev a η S).bind fun v S1=>match v with
  | .str x=>if x.length+(x.length+1)* z.length≤16777216 then .ok (.str (Txt.replace x y z)) S1 else .bad
  | _=>.bad
 | .replL a y z0 z1 z2 z3 i,η,S=>(ev a η S).bind fun v S1=>match v with
  | .str x=>(ev i η S1).bind fun w S2=>match w with
   | .int k=>match [z0,z1,z2,z3][k.toNat]? with
    | some z=>if 0≤k∧(y==z)=false∧x.length+(x.length+1)* z.length≤16777216 then .ok (.str (Txt.replace x y z)) S2 else .bad
    | none=>.bad
   | _=>.bad
  | _=>.bad
 | .akb own jr t s lM,η,S=>(pH s η S).bind fun p S1=>(aa8 (fun x S2=>match aZ t x (bR η own) with
   | none=>.bad
   | some η1=>(dB lM η1 S2).bind fun b S3=>if b=true then (ev jr η1 S3).bind fun y S4=>.ok (some y) S4 else .ok none S3) p.1 S1.length p.2 (S1++[.lst []])).bind fun _ S2=>.ok (.ref S1.length) S2
 | .akC own jr t s lM,η,S=>(pH s η S).bind fun p S1=>(Ce (fun x S2=>match aZ t x (bR η own) with
   | none=>.bad
   | some η1=>(dB lM η1 S2).bind fun b S3=>if b=true then (ev jr η1 S3).bind fun y S4=>match y with
     | .int z=>.ok [z] S4
     | _=>.bad
    else .ok [] S3) p.1 p.2 S1).bind fun zs S2=>if zs.length<64 then .ok (.int ((aiV zs).length:Nat)) S2 else .bad
 | .dgt a k d,η,S=>(ev a η S).bind fun x S1=>if (aX S1 x).isSome=true then (ev k η S1).bind fun y S2=>(ev d η S2).bind fun z S3=>match aX S3 x,y.key with
  | some (ks,vs),some kk=>.ok ((cG ks vs kk).getD z) S3
  | _,_=>.bad
  else .bad
 | .aly a k,η,S=>(ev a η S).bind fun x S1=>if (aX S1 x).isSome=true then (ev k η S1).bind fun y S2=>match x,y.key with
  | .ref r,some kk=>match S2[r]? with
   | some (.dct ks vs)=>match cG ks vs kk with
    | some v=>.ok v (S2.set r (.dct (delD kk ks vs).1 (delD kk ks vs).2))
    | none=>.bad
   | _=>.bad
  | _,_=>.bad
  else .bad
 | .lsc own jr t s lM,η,S=>(pH s η S).bind fun p S1=>(Ce (fun x S2=>match aZ t x (bR η own) with
   | none=>.bad
   | some η1=>(dB lM η1 S2).bind fun b S3=>if b=true then (ev jr η1 S3).bind fun y S4=>match y with
     | .str z=>.ok [z] S4
     | _=>.bad
    else .ok [] S3) p.1 p.2 S1).bind fun zs S2=>if zs.length<64 then .ok (.int ((Aa zs).length:Nat)) S2 else .bad
 | .mxd a d,η,S=>(ev a η S).bind fun x S1=>(ev d η S1).bind fun y S2=>match (bV S2 x).bind Cm,y with
  | some ns,.int j=>.ok (.int ((Qs ns).getD j)) S2
  | _,_=>.bad
 | .alT a,η,S=>(ev a η S).bind fun x S1=>match x with
  | .tup xs=>.ok (.tup xs.reverse) S1
  | _=>.bad
 | .alm c es,η,S=>(evs es η S).bind fun xs S1=>match M.cal (dot c "__init__") (.ref S1.length::xs) (S1++[.ins c [] []]) with
  | .ok (.val .non) T=>.ok (.ref S1.length) T
  | _=>.bad
 | .Ko c a,η,S=>(ev a η S).bind fun x S1=>if lH S1 x c "__repr__" then (Rr (pX M (dot c "__repr__") [x] S1)).bind fun v S2=>match v with
   | .str z=>.ok (.str z) S2
   | _=>.bad
  else .bad
 | .inl f,η,S=>(d9 f η S).bind fun o S1=>.ok o.inl S1
 | .Cz f,η,S=>(d9 f η S).bind fun o S1=>.ok (.ref S1.length) (S1++[o])
 | .bad,_,_=>.bad
noncomputable def d9:F→Sg→Hs→Res Ob
 | .lst es,η,S=>(evs es η S).bind fun xs S1=>if xs.length≤sizeLine then .ok (.lst xs) S1 else .bad
 | .cat a b,η,S=>(ev a η S).bind fun x S1=>(ev b η S1).bind fun y S2=>match bV S2 x,bV S2 y with
  | some xs,some ys=>if xs.length+ys.length≤sizeLine then .ok (.lst (xs++ys)) S2 else .bad
  | _,_=>.bad
 | .rep a b,η,S=>(ev a η S).bind fun x S1=>(ev b η S1).bind fun y S2=>match bV S2 x,y with
  | some xs,.int n=>if 0≤n∧n<2 ^ 63∧xs.length* n.toNat≤sizeLine then .ok (.lst (List.replicate n.toNat xs).flatten) S2 else .bad
  | _,_=>.bad
 | .slc a lo hi,η,S=>(ev a η S).bind fun x S1=>(YD lo η S1).bind fun l S2=>(YD hi η S2).bind fun h S3=>match bV S3 x with
  | some xs=>.ok (.lst (uo xs l h)) S3
  | none=>.bad
 | .cpy a,η,S=>(ev a η S).bind fun x S1=>match cV S1 x with
  | some xs=>.ok (.lst xs) S1
  | none=>.bad
 | .srt a,η,S=>(ev a η S).bind fun x S1=>match ajm S1 x with
  | some xs=>.ok (.lst xs) S1
  | none=>.bad
 | .comp own jr t s lM,η,S=>(pH s η S).bind fun p S1=>(gH (fun x S2=>match aZ t x (bR η own) with
   | none=>.bad
   | some η1=>(dB lM η1 S2).bind fun b S3=>if b=true then (ev jr η1 S3).bind fun y S4=>.ok (some y) S4 else .ok none S3) p.1 p.2 [] S1).bind fun ys S2=>.ok (.lst ys) S2
 | .V9 own jr t s,η,S=>(pH s η S).bind fun p S1=>(nZ (fun x S2=>match aZ t x (bR η own) with
   | none=>.bad
   | some η1=>(ev jr η1 S2).bind fun y S4=>.ok (some y) S4) p.1 p.2 [] S1).bind fun ys S2=>.ok (.lst ys) S2
 | .akX a,η,S=>(ev a η S).bind fun x S1=>match (bV S1 x).bind uR with
  | some zs=>if zs.length<64 then .ok (.lst ((dN (Aa zs)).map .str)) S1 else .bad
  | none=>.bad
 | .afK own jr t s lM Qm t1 s1 RN,η,S=>(pH s η S).bind fun p S1=>(Ce (fun x S2=>match aZ t x (bR η own) with
   | none=>.bad
   | some η1=>(dB lM η1 S2).bind fun b S3=>if b=true then (pH s1 η1 S3).bind fun p1 S4=>Ce (fun y S5=>match aZ t1 y (bR η1 Qm) with
     | none=>.bad
     | some η2=>(dB RN η2 S5).bind fun b1 S6=>if b1=true then (ev jr η2 S6).bind fun y S7=>match y with
       | .str z=>.ok [z] S7
       | _=>.bad
      else .ok [] S6) p1.1 p1.2 S4
    else .ok [] S3) p.1 p.2 S1).bind fun zs S2=>if zs.length<64 then .ok (.lst ((dN (Aa zs)).map .str)) S2 else .bad
 | .bad,_,_=>.bad
 | .call q es,η,S=>(evs es η S).bind fun xs S1=>(M.cal q xs S1).bind fun r S2=>match r with
  | .frs o=>.ok o S2
  | .val _=>.bad
 | .Zf c m a es,η,S=>(ev a η S).bind fun x S1=>if lH S1 x c m then (evs es η S1).bind fun xs S2=>(M.cal (dot c m) (x::xs) S2).bind fun r S3=>match r with
   | .frs o=>.ok o S3
   | .val _=>.bad
  else .bad
 | .dsp ks vs,η,S=>match evs vs η (S++[.dct [] []]) with
  | .ok xs T=>if T=S++[.dct [] []]∧aV S.length xs=true∧ks.Nodup∧ks.length=xs.length∧ks.length≤15 then .ok (.dct (ks.map Sum.inr) xs) S else .bad
  | _=>.bad
 | .new c es,η,S=>(evs es η S).bind fun xs S1=>Cj S1 (M.cal (dot c "__init__") (.ref S1.length::xs) (S1++[.ins c [] []]))
 | .split a b,η,S=>(ev a η S).bind fun x S1=>match x with
  | .str z=>(ev b η S1).bind fun y S2=>match y with
   | .str w=>if w.length≠0∧z.length+2≤sizeLine then .ok (.lst ((Txt.split z w).map .str)) S2 else .bad
   | _=>.bad
  | _=>.bad
 | .alG es,η,S=>match evs es η (S++[.dct [] []]) with
  | .ok xs T=>match aeS xs with
   | some ps=>if T=S++[.dct [] []]∧aV S.length (j6 ps [] []).2=true∧ps.length≤15 then .ok (.dct (j6 ps [] []).1 (j6 ps [] []).2) S else .bad
   | none=>.bad
  | _=>.bad
 | .zq ks vs,η,S=>match evs vs η (S++[.dct [] []]) with
  | .ok xs T=>if T=S++[.dct [] []]∧aV S.length xs=true∧ks.Nodup∧ks.length=xs.length∧ks.length≤15 then .ok (.dct ks xs) S else .bad
  | _=>.bad
 | .Ji own ke ve t s lM,η,S=>(pH s η S).bind fun p S1=>(uh (fun x S2=>match aZ t x (bR η own) with
   | none=>.bad
   | some η1=>(dB lM η1 S2).bind fun b S3=>if b=true then (ev ke η1 S3).bind fun k S4=>(ev ve η1 S4).bind fun y S5=>.ok (some (k,y)) S5 else .ok none S3) p.1 p.2 [] [] S1).bind fun q S2=>.ok (.dct q.1 q.2) S2
 | .yg own jr t i lM,η,S=>match η[i]? with
  | some (some (.dct ks vs))=>(gH (fun x S2=>match aZ t x (bR η own) with
   | none=>.bad
   | some η1=>(dB lM η1 S2).bind fun b S3=>if b=true then (ev jr η1 S3).bind fun y S4=>.ok (some y) S4 else .ok none S3) [] (bQ ks vs) [] S).bind fun ys S2=>.ok (.lst ys) S2
  | _=>.bad
 | .YK a,η,S=>(ev a η S).bind fun x S1=>match Bf S1 x with
  | some xs=>.ok (.lst xs) S1
  | none=>.bad
 | .Yc a,η,S=>(ev a η S).bind fun x S1=>match Gq S1 x with
  | some xs=>.ok (.lst xs) S1
  | none=>.bad
 | .alW a,η,S=>(ev a η S).bind fun x S1=>match agW S1 x with
  | some o=>.ok o S1
  | none=>.bad
 | .itl a,η,S=>(ev a η S).bind fun x S1=>match aX S1 x with
  | some (ks,vs)=>.ok (.lst (bQ ks vs)) S1
  | none=>.bad
 | .vll a,η,S=>(ev a η S).bind fun x S1=>match aX S1 x with
  | some (_,vs)=>.ok (.lst vs) S1
  | none=>.bad
 | .kyl a,η,S=>(ev a η S).bind fun x S1=>match aX S1 x with
  | some (ks,_)=>.ok (.lst (ks.map Vt)) S1
  | none=>.bad
 | .dcp a,η,S=>(ev a η S).bind fun x S1=>match aX S1 x with
  | some (ks,vs)=>.ok (.dct ks vs) S1
  | none=>.bad
 | .rev a,η,S=>(ev a η S).bind fun x S1=>match bV S1 x with
  | some xs=>.ok (.lst xs.reverse) S1
  | none=>.bad
 | .aif own jr t s lM Qm t1 s1 RN,η,S=>(pH s η S).bind fun p S1=>(Tw (fun x S2=>match aZ t x (bR η own) with
   | none=>.bad
   | some η1=>(dB lM η1 S2).bind fun b S3=>if b=true then (pH s1 η1 S3).bind fun p1 S4=>.ok (some (η1,p1.1,p1.2)) S4 else .ok none S3)
   (fun η1 y S5=>match aZ t1 y (bR η1 Qm) with
    | none=>.bad
    | some η2=>(dB RN η2 S5).bind fun b1 S6=>if b1=true then (ev jr η2 S6).bind fun y S7=>.ok (some y) S7 else .ok none S6) p.1 p.2 [] S1).bind fun ys S2=>.ok (.lst ys) S2
 | .akd own jr t k p lM,η,S=>match ahv η S p with
  | some x=>match hold S x with
   | some h=>(gH (fun x S2=>match aZ t x (bR η own) with
    | none=>.bad
    | some η1=>(dB lM η1 S2).bind fun b S3=>if b=true then (ev jr η1 S3).bind fun y S4=>.ok (some y) S4 else .ok none S3) [] (k.xs h.ks h.vs) [] h.S).bind fun ys S2=>match Xq h.bk S2 with
     | some T=>.ok (.lst ys) T
     | none=>.bad
   | none=>.bad
  | none=>.bad
 | .afC own ke ve t k p lM,η,S=>match ahv η S p with
  | some x=>match hold S x with
   | some h=>(uh (fun x S2=>match aZ t x (bR η own) with
    | none=>.bad
    | some η1=>(dB lM η1 S2).bind fun b S3=>if b=true then (ev ke η1 S3).bind fun k S4=>(ev ve η1 S4).bind fun y S5=>.ok (some (k,y)) S5 else .ok none S3) [] (k.xs h.ks h.vs) [] [] h.S).bind fun q S2=>match Xq h.bk S2 with
     | some T=>.ok (.dct q.1 q.2) T
     | none=>.bad
   | none=>.bad
  | none=>.bad
noncomputable def pH:Src→Sg→Hs→Res (List Lk × List Vl)
 | .sq e,η,S=>(ev e η S).bind fun x S1=>ig S1 (lZ S1 x)
 | .yC e,η,S=>(ev e η S).bind fun x S1=>match x with
  | .int j=>if -(2 ^ 62)≤j∧j<2 ^ 62 then .ok ([],jd 0 j.toNat) S1 else .bad
  | _=>.bad
 | .amf a b,η,S=>(ev a η S).bind fun x S1=>(ev b η S1).bind fun y S2=>match x,y with
  | .int i,.int j=>if -(2 ^ 62)≤i∧i<2 ^ 62∧-(2 ^ 62)≤j∧j<2 ^ 62 then .ok ([],jd i (j - i).toNat) S2 else .bad
  | _,_=>.bad
 | .YX e st,η,S=>(ev e η S).bind fun x S1=>(ig S1 (lZ S1 x)).bind fun p S2=>.ok (p.1,iH st p.2) S2
 | .zip a b,η,S=>(ev a η S).bind fun x S1=>(ev b η S1).bind fun y S2=>(ig S2 (afw S2 x)).bind fun p S3=>(ig S3 (afw S3 y)).bind fun q S4=>.ok (p.1++q.1,Cv p.2 q.2) S4
 | .chars e,η,S=>(ev e η S).bind fun x S1=>match x with
  | .str z=>.ok ([],iI z) S1
  | _=>.bad
 | .items e,η,S=>(ev e η S).bind fun x S1=>match x with
  | .dct ks vs=>.ok ([],bQ ks vs) S1
  | .ref r=>match S1[r]? with
   | some (.dct ks vs)=>.ok ([(r,.dct ks vs)],bQ ks vs) S1
   | _=>.bad
  | _=>.bad
noncomputable def evs:Es→Sg→Hs→Res (List Vl)
 | .nil,_,S=>.ok [] S
 | .cons e es,η,S=>(ev e η S).bind fun x S1=>(evs es η S1).bind fun xs S2=>.ok (x::xs) S2
noncomputable def dB:Es→Sg→Hs→Res Bool
 | .nil,_,S=>.ok true S
 | .cons e es,η,S=>(ev e η S).bind fun x S1=>match x with
  | .bl true=>dB es η S1
  | .bl false=>.ok false S1
  | _=>.bad
noncomputable def YD:Oe→Sg→Hs→Res (Option Int)
 | .none,_,S=>.ok none S
 | .some e,η,S=>(ev e η S).bind fun x S1=>match x with
  | .int i=>.ok (some i) S1
  | _=>.bad
end
def aeW (S:Hs) (x:Vl) (f:Str) (y:Vl):Option Hs:=match x with
 | .ref r=>match S[r]? with
  | some (.ins c ns vs)=>if ns.length<1000 then some (S.set r (.ins c (Fy ns vs f y).1 (Fy ns vs f y).2)) else none
  | _=>none
 | _=>none
def Fl (f:Str→Str→Option Bool) (d:Str):List Str→Option Bool
 | []=>some false
 | c::l=>match f d c,Fl f d l with
  | some a,some b=>some (a || b)
  | _,_=>none
def Res.out {α:Type} (r:Res α) (η:Sg) (f:α→Hs→Out):Out:=match r with
 | .ok a S=>f a S
 | .exc x S=>.exc x η S
 | .bad=>.bad
mutual
noncomputable def aP:C→Sg→Hs→Out
 | .asg t e,η,S=>(ev M e η S).out η fun x S1=>match aZ t x η with
  | some η1=>.nx η1 S1
  | none=>.bad
 | .star is i e,η,S=>(ev M e η S).out η fun x S1=>match cV S1 x with
  | some xs=>match aaH is xs η with
   | some (η1,ys)=>.nx (η1.set i (some (.lst ys))) S1
   | none=>.bad
  | none=>.bad
 | .par i j a b,η,S=>(ev M a η S).out η fun x S1=>(ev M b η S1).out η fun y S2=>.nx ((η.set i (some x)).set j (some y)) S2
 | .fset a f e,η,S=>(ev M e η S).out η fun y S1=>(ev M a η S1).out η fun x S2=>match x with
  | .ref r=>match S2[r]? with
   | some (.ins c ns vs)=>if ns.length<1000 then let q:=Fy ns vs f y; .nx η (S2.set r (.ins c q.1 q.2)) else .bad
   | _=>.bad
  | _=>.bad
 | .uP o i e,η,S=>(ev M e η S).out η fun y S1=>(ev M o η S1).out η fun x S2=>(ev M i η S2).out η fun k S3=>match sU S3 x k y with
  | some T=>.nx η T
  | none=>.bad
 | .Vs o1 i1 o2 i2 e,η,S=>(ev M e η S).out η fun p S1=>match p with
  | .tup [y,z]=>(ev M o1 η S1).out η fun x S2=>(ev M i1 η S2).out η fun k S3=>match sU S3 x k y with
   | some T=>(ev M o2 η T).out η fun x2 S4=>(ev M i2 η S4).out η fun k2 S5=>match sU S5 x2 k2 z with
    | some T2=>.nx η T2
    | none=>.bad
   | none=>.bad
  | _=>.bad
 | .ajq a1 f1 a2 f2 e,η,S=>(ev M e η S).out η fun p S1=>match p with
  | .tup [y,z]=>(ev M a1 η S1).out η fun x S2=>match aeW S2 x f1 y with
   | some T=>(ev M a2 η T).out η fun x2 S3=>match aeW S3 x2 f2 z with
    | some T2=>.nx η T2
    | none=>.bad
   | none=>.bad
  | _=>.bad
 | .aje i t e,η,S=>(ev M e η S).out η fun x S1=>match cV S1 x with
  | some xs=>match xs.getLast? with
   | some y=>match aZ t y (η.set i (some (.lst xs.dropLast))) with
    | some η1=>.nx η1 S1
    | none=>.bad
   | none=>.bad
  | none=>.bad
 | .aug i op e,η,S=>match η[i]? with
  | some (some x)=>(ev M e η S).out η fun y S1=>match op,x,y with
   | .Add,.int a,.int b=>.nx (η.set i (some (.int (a+b)))) S1
   | .Sub,.int a,.int b=>.nx (η.set i (some (.int (a - b)))) S1
   | _,_,_=>.bad
  | _=>.bad
 | .ex e,η,S=>(ev M e η S).out η fun _ S1=>.nx η S1
 | .ret e,η,S=>(ev M e η S).out η fun x S1=>.ret (.val x) S1
 | .Yq f,η,S=>(d9 M f η S).out η fun o S1=>.ret (.frs o) S1
 | .alh,η,S=>.ret (.val .non) S
 | .ite t a b,η,S=>(ev M t η S).out η fun x S1=>match x with
  | .bl true=>exec a η S1
  | .bl false=>exec b η S1
  | _=>.bad
 | .for_ t s b,η,S=>(pH M s η S).out η fun p S1=>forL (fun η1 S2=>exec b η1 S2) t p.1 p.2 η S1
 | .whl t b,η,S=>FW (fun η1 S2=>ev M t η1 S2) (fun η1 S2=>exec b η1 S2) M.fuel η S
 | .alb t k p b,η,S=>match ahv η S p with
  | some x=>match hold S x with
   | some h=>(forL (fun η1 S2=>exec b η1 S2) t [] (k.xs h.ks h.vs) η h.S).back h.bk
   | none=>.bad
  | none=>.bad
 | .raise c es,η,S=>(evs M es η S).out η fun xs S1=>match M.xi c,xs with
  | some (some f),[x]=>.exc ⟨c,some ([f],[x])⟩ η S1
  | some none,_=>if xs.length≤1000 then .exc ⟨c,none⟩ η S1 else .bad
  | _,_=>.bad
 | .try_ b c i h,η,S=>match exec b η S with
  | .exc x η1 S1=>match M.sub x.c c with
   | some true=>if Y9 η1=true∧TF S1=true then (match exec h (η1.set i (some x.vl)) S1 with
     | .nx η2 S2=>if Y9 (η2.set i none)=true∧TF S2=true then .nx (η2.set i none) S2 else .bad
     | .ret r S2=>if r.ef=true∧TF S2=true then .ret r S2 else .bad
     | _=>.bad) else .bad
   | some false=>.exc x η1 S1
   | none=>.bad
  | o=>o
 | .akE b c1 c2 i h,η,S=>match exec b η S with
  | .exc x η1 S1=>match M.sub x.c c1,M.sub x.c c2 with
   | some b1,some b2=>if (b1 || b2)=true then (if Y9 η1=true∧TF S1=true then (match exec h (η1.set i (some x.vl)) S1 with
     | .nx η2 S2=>if Y9 (η2.set i none)=true∧TF S2=true then .nx (η2.set i none) S2 else .bad
     | .ret r S2=>if r.ef=true∧TF S2=true then .ret r S2 else .bad
     | _=>.bad) else .bad) else .exc x η1 S1
   | _,_=>.bad
  | o=>o
 | .akR b c1 c2 c3 i h,η,S=>match exec b η S with
  | .exc x η1 S1=>match M.sub x.c c1,M.sub x.c c2,M.sub x.c c3 with
   | some b1,some b2,some b3=>if (b1 || b2 || b3)=true then (if Y9 η1=true∧TF S1=true then (match exec h (η1.set i (some x.vl)) S1 with
     | .nx η2 S2=>if Y9 (η2.set i none)=true∧TF S2=true then .nx (η2.set i none) S2 else .bad
     | .ret r S2=>if r.ef=true∧TF S2=true then .ret r S2 else .bad
     | _=>.bad) else .bad) else .exc x η1 S1
   | _,_,_=>.bad
  | o=>o
 | .fin b h,η,S=>match exec b η S with
  | .nx η1 S1=>(match exec h η1 S1 with
   | .exc _ _ _=>.bad
   | o=>o)
  | _=>.bad
 | .Tv b l h,η,S=>match exec b η S with
  | .exc x η1 S1=>match Fl M.sub x.c l with
   | some true=>exec h η1 S1
   | some false=>.exc x η1 S1
   | none=>.bad
  | o=>o
 | .pass,η,S=>.nx η S
 | .brk,η,S=>.brk η S
 | .cnt,η,S=>.cnt η S
 | .bad,_,_=>.bad
noncomputable def exec:Cs→Sg→Hs→Out
 | .nil,η,S=>.nx η S
 | .cons c cs,η,S=>match aP c η S with
  | .nx η1 S1=>exec cs η1 S1
  | o=>o
end
end Oz
namespace Oz
open PySem L2 PyProof.Rows
def XW (G:bB) (W:WX) (σ:L2.St) (ρ:List Addr) (H:Hp) (x:Xc):Prop:=match x.fs with
 | none=>W (.ref (G.xl x.c)) none σ H
 | some (ns,vs)=>∀ d fs,H d=some (.xd fs)→d∉ρ→fs.map (·.1)=ns→au G ρ H vs (fs.map (·.2))→W (.ref (G.xl x.c)) (some d) σ H
def PR {α:Type} (G:bB) (W:WX) (σ:L2.St) (ρ:List Addr) (H:Hp) (r:Res α) (ok:List Addr→Hp→α→Hs→Prop):Prop:=match r with
 | .ok a S'=>∀ ρ' H',Step ρ H ρ' H'→bf G ρ' H' S'→ok ρ' H' a S'
 | .exc x S'=>∀ ρ' H',Step ρ H ρ' H'→bf G ρ' H' S'→XW G W σ ρ' H' x
 | .bad=>False
section
variable {α β:Type} {G:bB} {W:WX} {σ:L2.St} {ρ ρ':List Addr} {H H':Hp} {S:Hs}
theorem PR.step {r:Res α} {ok:List Addr→Hp→α→Hs→Prop} (h:PR G W σ ρ H r ok) (a:Step ρ H ρ' H'):PR G W σ ρ' H' r ok:=by
 cases r with
 | ok x S'=>exact fun ρ2 H2 b s=>h ρ2 H2 (a.trans b) s
 | exc x S'=>exact fun ρ2 H2 b s=>h ρ2 H2 (a.trans b) s
 | bad=>exact h
theorem PR.bind {r:Res α} {f:α→Hs→Res β} {ok:List Addr→Hp→β→Hs→Prop} (h:PR G W σ ρ H (r.bind f) ok):PR G W σ ρ H r fun ρ1 H1 a S1=>PR G W σ ρ1 H1 (f a S1) ok:=by
 cases r with
 | ok x S'=>exact fun ρ2 H2 b s=>PR.step h b
 | exc x S'=>exact h
 | bad=>exact h
theorem PR.mono {r:Res α} {ok ok':List Addr→Hp→α→Hs→Prop} (h:PR G W σ ρ H r ok) (k:∀ ρ1 H1 a S1,Step ρ H ρ1 H1→bf G ρ1 H1 S1→ok ρ1 H1 a S1→ok' ρ1 H1 a S1):PR G W σ ρ H r ok':=by
 cases r with
 | ok x S'=>exact fun ρ2 H2 b s=>k _ _ _ _ b s (h ρ2 H2 b s)
 | exc x S'=>exact h
 | bad=>exact h
theorem PR.here {x:α} {ok:List Addr→Hp→α→Hs→Prop} (h:PR G W σ ρ H (.ok x S) ok) (s:bf G ρ H S):ok ρ H x S:=h ρ H (Step.refl _ _) s
theorem PR.ig {o:Option α} {ok:List Addr→Hp→α→Hs→Prop} (h:PR G W σ ρ H (ig S o) ok):∃ x,o=some x∧PR G W σ ρ H (.ok x S) ok:=by
 cases o with
 | none=>exact h.elim
 | some x=>exact ⟨x,rfl,h⟩
end
theorem _root_.L2.PE.imp {X:Cx} {e:Expr} {t t':TE} (h:PE X e t) (k:∀ σ H Q,t' σ H Q→t σ H Q):PE X e t':=⟨fun pins s σ H Q I q=>h.run pins s σ H Q I (k σ H Q q)⟩
theorem _root_.L2.PT.imp {X:Cx} {e:Expr} {t t':TT} (h:PT X e t) (k:∀ σ H Q,t' σ H Q→t σ H Q):PT X e t':=⟨fun pins s σ H Q I q=>h.run pins s σ H Q I (k σ H Q q)⟩
theorem _root_.L2.PA.imp {X:Cx} {e:List Expr} {t t':TA} (h:PA X e t) (k:∀ σ H Q,t' σ H Q→t σ H Q):PA X e t':=⟨fun pos pins s σ H Q I q=>h.run pos pins s σ H Q I (k σ H Q q)⟩
theorem _root_.L2.PS.imp {X:Cx} {e:Stmt} {t t':TS} (h:PS X e t) (k:∀ D σ H,t' D σ H→t D σ H):PS X e t':=⟨fun pins s σ H D I q=>h.run pins s σ H D I (k D σ H q)⟩
theorem _root_.L2.PSs.imp {X:Cx} {e:List Stmt} {t t':TS} (h:PSs X e t) (k:∀ D σ H,t' D σ H→t D σ H):PSs X e t':=⟨fun pins s σ H D I q=>h.run pins s σ H D I (k D σ H q)⟩
section
variable (G:bB) (M:aF) (W:WX)
def okV (Q:VK):List Addr→Hp→Vl→Hs→Prop:=fun ρ' H' x _=>∀ v,VR G ρ' H' x v→Q v H'
def alD (Q:List V→Hp→Prop):List Addr→Hp→List Vl→Hs→Prop:=fun ρ' H' xs _=>∀ vs,au G ρ' H' xs vs→Q vs H'
def Cd (H:Hp) (Q:VK):List Addr→Hp→Ob→Hs→Prop:=fun ρ' H' o S'=>∀ p,H p=none→p∉ρ'→OR G ρ' H' p o→bf G (ρ'++[p]) H' (S'++[o])→Q (.ref p) H'
def tE (c:E):TE:=fun σ H Q=>∃ ρ η S,bf G ρ H S∧ER G ρ H η σ∧PR G W σ ρ H (ev M c η S) (okV G Q)
def tF (c:F):TE:=fun σ H Q=>∃ ρ η S,bf G ρ H S∧ER G ρ H η σ∧PR G W σ ρ H (d9 M c η S) (Cd G H Q)
def tA (c:Es):TA:=fun σ H Q=>∃ ρ η S,bf G ρ H S∧ER G ρ H η σ∧PR G W σ ρ H (evs M c η S) (alD G Q)
def tT (c:E):TT:=fun σ H Q=>∃ ρ η S,bf G ρ H S∧ER G ρ H η σ∧PR G W σ ρ H (ev M c η S) (fun _ H' x _=>∀ b,x=.bl b→Q b H')∧PR G (fun _ _ _ _=>True) σ ρ H (ev M c η S) (fun _ _ x _=>∃ b,x=.bl b)
end
end Oz
namespace Oz
open PySem L2 PyProof.Rows
section
variable {G:bB} {ρ ρ':List Addr} {H H':Hp} {S:Hs}
theorem bu (k:Same H H'):Step ρ H ρ H':=⟨List.prefix_refl _,fun a o h _=>k a o h,fun _ h=>.inl h,fun a od u h=>k a _ h⟩
theorem oU {a:Addr} {o:HO} (n:∀ od u,H a≠some (.frz od u)):∀ b od u,H b=some (.frz od u)→upd H a o b=some (.frz od u):=fun b od u h=>by
 rw [upd_ne fun e=>n od u (by rw [← e];exact h)];exact h
theorem OR.same (a:Step ρ H ρ' H') (k:Same H H') {p:Addr} {o:Ob} (h:OR G ρ H p o):OR G ρ' H' p o:=by
 cases o with
 | lst xs=>obtain ⟨vs,h1,h2⟩:=h;exact ⟨vs,k _ _ h1,au.step a _ _ h2⟩
 | dct ks xs=>obtain ⟨vs,h1,h2,h3⟩:=h;exact ⟨vs,k _ _ h1,h2,au.step a _ _ h3⟩
 | ins c ns xs=>obtain ⟨dx,vs,h1,h2,h3⟩:=h;exact ⟨dx,vs,k _ _ h1,h2,au.step a _ _ h3⟩
 | zU ks xs=>obtain ⟨vs,od,h1,h2,h3⟩:=h;exact ⟨vs,od,k _ _ h1,h2,au.step a _ _ h3⟩
theorem bf.same (s:bf G ρ H S) (k:Same H H'):bf G ρ H' S:=⟨s.len,s.nd,fun r o a h1 h2=>(s.at_ r o a h1 h2).same (bu k) k⟩
theorem OR.there {p:Addr} {o:Ob} (h:OR G ρ H p o):∃ u,H p=some u:=by
 cases o with
 | lst xs=>obtain ⟨vs,h1,_⟩:=h;exact ⟨_,h1⟩
 | dct ks xs=>obtain ⟨vs,h1,_⟩:=h;exact ⟨_,h1⟩
 | ins c ns xs=>obtain ⟨dx,vs,h1,_⟩:=h;exact ⟨_,h1⟩
 | zU ks xs=>obtain ⟨vs,od,h1,_⟩:=h;exact ⟨_,h1⟩
theorem bf.mem (s:bf G ρ H S) {p:Addr} (h:p∈ρ):∃ (r:Nat) (o:Ob),S[r]? =some o∧ρ[r]? =some p∧OR G ρ H p o:=by
 obtain ⟨r,hr⟩:=List.getElem?_of_mem h
 have hl:r<S.length:=by rw [← s.len];exact (List.getElem?_eq_some_iff.mp hr).1
 exact ⟨r,S[r],List.getElem?_eq_getElem hl,hr,s.at_ r _ _ (List.getElem?_eq_getElem hl) hr⟩
theorem bf.free (s:bf G ρ H S) {p:Addr} (h:H p=none):p∉ρ:=fun q=>by
 obtain ⟨r,o,_,_,h3⟩:=s.mem q
 obtain ⟨u,hu⟩:=h3.there
 rw [h] at hu;cases hu
theorem fK {p:Addr} {o:HO} (h:H p=none):Same H (upd H p o):=fun b u e=>by rw [upd_ne (ne_of_none e h)];exact e
theorem bf.ref (s:bf G ρ H S) {r:Nat} {v:V} (h:VR G ρ H (.ref r) v) {o:Ob} (e:S[r]? =some o):∃ a,v=.ref a∧ρ[r]? =some a∧OR G ρ H a o:=by
 simp only [VR] at h
 obtain ⟨a,rfl,h1⟩:=h
 exact ⟨a,rfl,h1,s.at_ r o a e h1⟩
mutual
theorem Ua {f:Nat→Vl} (hf:∀ r v d,VR G ρ H (.ref r) v→(f r).toD=some d→Dp G.K H v d):∀ (x:Vl) (v:V) (d:PyData),VR G ρ H x v→(x.dO f).toD=some d→Dp G.K H v d
 | .non,_,_,h,e=>by
  simp only [VR] at h;simp only [Vl.dO,Vl.toD,Option.some.injEq] at e
  subst h e;exact .non
 | .bl b,_,_,h,e=>by
  simp only [VR] at h;simp only [Vl.dO,Vl.toD,Option.some.injEq] at e
  subst h e;exact .bl b
 | .int b,_,_,h,e=>by
  simp only [VR] at h;simp only [Vl.dO,Vl.toD,Option.some.injEq] at e
  subst h e;exact .int b
 | .str b,_,_,h,e=>by
  simp only [VR] at h;simp only [Vl.dO,Vl.toD,Option.some.injEq] at e
  subst h e;exact .str b
 | .tup xs,v,d,h,e=>by
  simp only [VR] at h;simp only [Vl.dO,Vl.toD] at e
  obtain ⟨a,vs,rfl,h1,h2⟩:=h
  obtain ⟨ds,e1,rfl⟩:=Option.map_eq_some_iff.mp e
  exact .tup h1.sq (CT hf xs vs ds h2 e1)
 | .lst xs,v,d,h,e=>by
  simp only [VR] at h;simp only [Vl.dO,Vl.toD] at e
  obtain ⟨a,vs,rfl,h1,h2⟩:=h
  obtain ⟨ds,e1,rfl⟩:=Option.map_eq_some_iff.mp e
  exact .lst h1.sq (CT hf xs vs ds h2 e1)
 | .dct ks xs,_,_,_,e=>by simp only [Vl.dO,Vl.toD] at e;cases e
 | .obj c ns xs,_,_,_,e=>by simp only [Vl.dO,Vl.toD] at e;cases e
 | .err c ns xs,_,_,_,e=>by simp only [Vl.dO,Vl.toD] at e;cases e
 | .ref r,v,d,h,e=>by
  simp only [Vl.dO] at e
  exact hf r v d h e
theorem CT {f:Nat→Vl} (hf:∀ r v d,VR G ρ H (.ref r) v→(f r).toD=some d→Dp G.K H v d):∀ (xs:List Vl) (vs:List V) (ds:List PyData),au G ρ H xs vs→tL (jn f xs)=some ds→DpAll G.K H vs ds
 | [],vs,ds,h,e=>by
  simp only [au] at h;simp only [jn,tL,Option.some.injEq] at e
  subst h e;exact .nil
 | x::xs,vs,ds,h,e=>by
  simp only [au] at h;simp only [jn,tL] at e
  obtain ⟨v,r,rfl,h1,h2⟩:=h
  split at e
  ·rename_i d' ds' e1 e2
   cases e
   exact .cons (Ua hf x v _ h1 e1) (CT hf xs r _ h2 e2)
  ·cases e
end
theorem abm (s:bf G ρ H S):∀ (k:Nat) (x:Vl) (v:V) (d:PyData),VR G ρ H x v→(rO k S x).toD=some d→Dp G.K H v d
 | 0,x,v,d,h,e=>Ua (f:=.ref) (fun r v d _ e=>by have e':(none:Option PyData)=some d:=e;cases e') x v d h (by simpa only [rO] using e)
 | k+1,x,v,d,h,e=>by
  refine Ua (fun r w d' hr er=> ?_) x v d h (by simpa only [rO] using e)
  split at er
  ·rename_i o eo
   obtain ⟨a,rfl,ha,ho⟩:=s.ref hr eo
   cases o with
   | lst xs=>
    obtain ⟨vs,h1,h2⟩:=ho
    have er':(rO k S (.lst xs)).toD=some d':=er
    -- the list's own items,by the same
    have key:∀ (f:Nat→Vl),(∀ r v d,VR G ρ H (.ref r) v→(f r).toD=some d→Dp G.K H v d)→((Vl.lst xs).dO f).toD=some d'→Dp G.K H (.ref a) d':=fun f hf e=>by
     simp only [Vl.dO,Vl.toD] at e
     obtain ⟨ds,e1,rfl⟩:=Option.map_eq_some_iff.mp e
     exact .lst (SqL.of h1) (CT hf xs vs ds h2 e1)
    cases k with
    | zero=>exact key .ref (fun r v d _ e=>by have e':(none:Option PyData)=some d:=e;cases e') (by simpa only [rO] using er')
    | succ k=>
     refine key _ (fun r' v' d' hr' er2=> ?_) (by simpa only [rO] using er')
     exact abm s (k+1) (.ref r') v' d' hr' (by simp only [rO,Vl.dO];exact er2)
   | dct ks xs=>
    have er':(rO k S (.dct ks xs)).toD=some d':=er
    cases k<;>(simp only [rO,Vl.dO,Vl.toD] at er';cases er')
   | ins c ns xs=>
    have er':(rO k S (.obj c ns xs)).toD=some d':=er
    cases k<;>(simp only [rO,Vl.dO,Vl.toD] at er';cases er')
   | zU ks xs=>
    have er':(rO k S (.dct ks xs)).toD=some d':=er
    cases k<;>(simp only [rO,Vl.dO,Vl.toD] at er';cases er')
  ·simp only [Vl.toD] at er;cases er
theorem tX (s:bf G ρ H S) {x:Vl} {v:V} {d:PyData} (h:VR G ρ H x v) (e:dataOf S x=some d):Dp G.K H v d:=abm s _ x v d h e
theorem uw (s:bf G ρ H S) {x:Vl} {v:V} {xs:List Vl} (h:VR G ρ H x v) (e:cV S x=some xs):∃ a vs,v=.ref a∧(SqL G.K H a vs∨SqT G.K H a vs)∧au G ρ H xs vs:=by
 cases x with
 | tup ys=>simp only [cV,Option.some.injEq] at e;subst e;simp only [VR] at h;obtain ⟨a,vs,rfl,h1,h2⟩:=h;exact ⟨a,vs,rfl,.inr h1.sq,h2⟩
 | lst ys=>simp only [cV,Option.some.injEq] at e;subst e;simp only [VR] at h;obtain ⟨a,vs,rfl,h1,h2⟩:=h;exact ⟨a,vs,rfl,.inl h1.sq,h2⟩
 | ref r=>
  simp only [cV] at e
  split at e
  ·rename_i ys eo
   cases e
   obtain ⟨a,rfl,_,vs,h1,h2⟩:=s.ref h eo
   exact ⟨a,vs,rfl,.inl (SqL.of h1),h2⟩
  ·cases e
 | _=>simp only [cV] at e;cases e
theorem lQ (s:bf G ρ H S) {x:Vl} {v:V} {xs:List Vl} (h:VR G ρ H x v) (e:bV S x=some xs):∃ a vs,v=.ref a∧Rd H a (.lst vs)∧au G ρ H xs vs:=by
 cases x with
 | lst ys=>simp only [bV,Option.some.injEq] at e;subst e;simp only [VR] at h;obtain ⟨a,vs,rfl,h1,h2⟩:=h;exact ⟨a,vs,rfl,h1.1,h2⟩
 | ref r=>
  simp only [bV] at e
  split at e
  ·rename_i ys eo
   cases e
   obtain ⟨a,rfl,_,vs,h1,h2⟩:=s.ref h eo
   exact ⟨a,vs,rfl,.inl h1,h2⟩
  ·cases e
 | _=>simp only [bV] at e;cases e
theorem nR (s:bf G ρ H S) {x:Vl} {v:V} {ks:List Key} {xs:List Vl} (h:VR G ρ H x v) (e:aX S x=some (ks,xs)):∃ a kvs,v=.ref a∧Rd H a (.dK kvs)∧kvs.map (·.1)=ks∧au G ρ H xs (kvs.map (·.2)):=by
 cases x with
 | dct Ac ys=>simp only [aX,Option.some.injEq,Prod.mk.injEq] at e;obtain ⟨rfl,rfl⟩:=e;simp only [VR] at h;obtain ⟨a,vs,rfl,h1,_,h2,h3⟩:=h;exact ⟨a,vs,rfl,h1,h2,h3⟩
 | ref r=>
  simp only [aX] at e
  split at e
  ·rename_i Ac ys eo
   cases e
   obtain ⟨a,rfl,_,vs,h1,h2,h3⟩:=s.ref h eo
   exact ⟨a,vs,rfl,.inl h1,h2,h3⟩
  ·rename_i Ac ys eo
   cases e
   obtain ⟨a,rfl,_,vs,od,h1,h2,h3⟩:=s.ref h eo
   exact ⟨a,vs,rfl,.inr ⟨od,h1⟩,h2,h3⟩
  ·cases e
 | _=>simp only [aX] at e;cases e
theorem Ml (s:bf G ρ H S) {x:Vl} {v:V} {c:Str} {ns:List Str} {xs:List Vl} (h:VR G ρ H x v) (e:lD S x=some (c,ns,xs)):∃ a dx fs,v=.ref a∧H a=some (.ins (G.cl c) dx fs)∧fs.map (·.1)=ns∧au G ρ H xs (fs.map (·.2)):=by
 cases x with
 | obj c' ns' ys=>simp only [lD,Option.some.injEq,Prod.mk.injEq] at e;obtain ⟨rfl,rfl,rfl⟩:=e;simp only [VR] at h;obtain ⟨a,dx,vs,rfl,h1,_,h2,h3⟩:=h;exact ⟨a,dx,vs,rfl,h1,h2,h3⟩
 | ref r=>
  simp only [lD] at e
  split at e
  ·rename_i c' ns' ys eo
   cases e
   obtain ⟨a,rfl,_,dx,vs,h1,h2,h3⟩:=s.ref h eo
   exact ⟨a,dx,vs,rfl,h1,h2,h3⟩
  ·cases e
 | _=>simp only [lD] at e;cases e
theorem W4:∀ {ns:List Str} {xs:List Vl} {fs:List (Str × V)} {f:Str} {x:Vl},fs.map (·.1)=ns→au G ρ H xs (fs.map (·.2))→cG ns xs f=some x→∃ v,fs.lookup f=some v∧VR G ρ H x v
 | [],_,_,_,_,_,_,e=>by simp [cG] at e
 | n::ns,[],_,_,_,_,_,e=>by simp [cG] at e
 | n::ns,y::xs,[],f,x,h,_,_=>by simp at h
 | n::ns,y::xs,(m,v)::fs,f,x,h,k,e=>by
  simp only [List.map_cons,List.cons.injEq] at h
  obtain ⟨rfl,h⟩:=h
  simp only [List.map_cons,au] at k
  obtain ⟨v',r,e1,k1,k2⟩:=k
  cases e1
  simp only [cG] at e
  by_cases q:m=f
  ·subst q
   rw [if_pos rfl] at e;cases e
   exact ⟨v,by simp [List.lookup],k1⟩
  ·rw [if_neg q] at e
   obtain ⟨w,e1,e2⟩:=W4 h k2 e
   exact ⟨w,by rw [List.lookup_cons,beq_eq_false_iff_ne.mpr fun z=>q z.symm];exact e1,e2⟩
theorem M3:∀ {ks:List Key} {xs:List Vl} {kvs:List (Key × V)} {k:Key} {x:Vl},kvs.map (·.1)=ks→au G ρ H xs (kvs.map (·.2))→cG ks xs k=some x→∃ v,valV kvs k=some v∧VR G ρ H x v
 | [],_,_,_,_,_,_,e=>by simp [cG] at e
 | n::ns,[],_,_,_,_,_,e=>by simp [cG] at e
 | n::ns,y::xs,[],f,x,h,_,_=>by simp at h
 | n::ns,y::xs,(m,v)::fs,f,x,h,k,e=>by
  simp only [List.map_cons,List.cons.injEq] at h
  obtain ⟨rfl,h⟩:=h
  simp only [List.map_cons,au] at k
  obtain ⟨v',r,e1,k1,k2⟩:=k
  cases e1
  simp only [cG] at e
  by_cases q:m=f
  ·subst q
   rw [if_pos rfl] at e;cases e
   exact ⟨v,valV_pos (p:=(m,v)) rfl,k1⟩
  ·rw [if_neg q] at e
   obtain ⟨w,e1,e2⟩:=M3 h k2 e
   exact ⟨w,by rw [valV_neg (p:=(m,v)) q];exact e1,e2⟩
theorem acj {ks:List Key} {kvs:List (Key × V)} {k:Key} (h:kvs.map (·.1)=ks):(ks.any fun j=>decide (j=k))=(valV kvs k).isSome:=by
 rw [← valV_any,← h,List.any_map];rfl
theorem VR.flat {x:Vl} {v:V} (h:VR G ρ H x v) (f:x.flat=true):flatV v=true:=by
 cases x with
 | non=>simp only [VR] at h;subst h;rfl
 | bl b=>simp only [VR] at h;subst h;rfl
 | int b=>simp only [VR] at h;subst h;rfl
 | str b=>simp only [VR] at h;subst h;rfl
 | _=>simp [Vl.flat] at f
theorem VR.eqf {x y:Vl} {v w:V} (h:VR G ρ H x v) (k:VR G ρ H y w) (f:x.flat=true) (g:y.flat=true):eqV v w=eqF x y:=by
 cases x<;>first
  | (simp [Vl.flat] at f;done)
  | (cases y<;>first
    | (simp [Vl.flat] at g;done)
    | (simp only [VR] at h k;subst h;subst k;rfl))
theorem au.flats:∀ {xs:List Vl} {vs:List V} {y:Vl} {w:V},au G ρ H xs vs→VR G ρ H y w→xs.all Vl.flat=true→y.flat=true→vs.all flatV=true∧inV w vs=xs.any fun z=>eqF z y
 | [],vs,y,w,h,k,_,_=>by simp only [au] at h;subst h;exact ⟨rfl,rfl⟩
 | x::xs,vs,y,w,h,k,f,g=>by
  simp only [au] at h
  obtain ⟨v,r,rfl,h1,h2⟩:=h
  rw [List.all_cons,Bool.and_eq_true] at f
  obtain ⟨i1,i2⟩:=au.flats h2 k f.2 g
  refine ⟨by rw [List.all_cons,h1.flat f.1,i1];rfl,?_⟩
  show (eqV v w || inV w r)=(eqF x y || xs.any fun z=>eqF z y)
  rw [i2,h1.eqf k f.1 g]
theorem au.bls:∀ {xs:List Vl} {vs:List V} {bs:List Bool},au G ρ H xs vs→allB xs=some bs→vs=bs.map V.bl
 | [],vs,bs,h,e=>by simp only [au] at h;simp only [allB,Option.some.injEq] at e;subst h e;rfl
 | x::xs,vs,bs,h,e=>by
  simp only [au] at h;simp only [allB] at e
  obtain ⟨v,r,rfl,h1,h2⟩:=h
  split at e
  ·rename_i b bs' e1 e2
   cases e
   cases x<;>simp only [afG] at e1<;>cases e1
   simp only [VR] at h1;subst h1
   rw [au.bls h2 e2];rfl
  ·cases e
theorem au.ints:∀ {xs:List Vl} {vs:List V} {bs:List Int},au G ρ H xs vs→Cm xs=some bs→vs=bs.map V.int
 | [],vs,bs,h,e=>by simp only [au] at h;simp only [Cm,Option.some.injEq] at e;subst h e;rfl
 | x::xs,vs,bs,h,e=>by
  simp only [au] at h
  obtain ⟨v,r,rfl,h1,h2⟩:=h
  cases x with
  | int i=>
   simp only [Cm] at e
   obtain ⟨l,e1,rfl⟩:=Option.map_eq_some_iff.mp e
   simp only [VR] at h1;subst h1
   rw [au.ints h2 e1];rfl
  | _=>simp only [Cm] at e;cases e
theorem au.strs:∀ {xs:List Vl} {vs:List V} {bs:List Str},au G ρ H xs vs→uR xs=some bs→vs=bs.map V.str
 | [],vs,bs,h,e=>by simp only [au] at h;simp only [uR,Option.some.injEq] at e;subst h e;rfl
 | x::xs,vs,bs,h,e=>by
  simp only [au] at h
  obtain ⟨v,r,rfl,h1,h2⟩:=h
  cases x with
  | str i=>
   simp only [uR] at e
   obtain ⟨l,e1,rfl⟩:=Option.map_eq_some_iff.mp e
   simp only [VR] at h1;subst h1
   rw [au.strs h2 e1];rfl
  | _=>simp only [uR] at e;cases e
theorem au.Vc:∀ {ns:List Int},au G ρ H (ns.map .int) (ns.map V.int)
 | []=>au.nil
 | n::ns=>au.cons (by simp only [VR]) au.Vc
theorem au.WN:∀ {ns:List Str},au G ρ H (ns.map .str) (ns.map V.str)
 | []=>au.nil
 | n::ns=>au.cons (by simp only [VR]) au.WN
end
end Oz
namespace Oz
open PySem L2 PyProof.Rows
structure Good (G:bB) (k:Nat) (X:Cx):Prop where
 K:X.K=G.K
 nd:X.N.Nodup
 room:L2H.RoomH k X.A
 Mf:X.A.guards=some []
 er:∀ e,G.er=some e→∃ oe vs,(e.1,oe)∈X.pn∧Zc e.2.1 e.2.2 oe∧oe.data=.fields vs
theorem Good.u64 {G:bB} {k:Nat} {X:Cx} (g:Good G k X):X.A.units+64<cLine:=by have:=g.room.un;omega
theorem Good.u1 {G:bB} {k:Nat} {X:Cx} (g:Good G k X):X.A.units+1<cLine:=by have:=g.room.un;omega
class bT (G:bB) (X:Cx):Prop where
 calm:X.calm=true
 hd:X.A.handled=none
 er:G.er=none
theorem Good.calm {G:bB} {k:Nat} {X:Cx} (g:Good G k X) [c:bT G X]:X.calm=true:=c.calm
theorem Good.rm {G:bB} {k:Nat} {X:Cx} (g:Good G k X) [c:bT G X]:Room k X.A:=⟨c.hd,g.room.dp,g.room.un⟩
section
open PySem.Spec
theorem Qn (l:Addr) (items:Array Value) (n:Nat) (dd:Option Addr) (sl:Array (Option Value)) (x:Int) (u:Tok) (c0:(decide (x< -(2 ^ 63)) || decide (x≥2 ^ 63))=false) (c1:(items.isEmpty || x==1)=true) :
  Meets (Builtin.«tuple.__mul__» ⟨[.ref l,.int x u],[]⟩) (fun _ R s=>s.heap.get? l=some { cls:=.type "tuple",dict:=dd,data:=.seq items n,slots:=sl }∧R (.ok (.ret (Value.ref l))) s):=
 .of_wp fun prog w A R s h=>by
  obtain ⟨hp,g,d,tk,os⟩:=s
  obtain ⟨hl,h⟩:=h
  have f1:=AutoSeq1.idx_int
  wp_walk using wpAny_loadPart' hl
  repeat (first
   | (refine wpAny_ite_false (decide_eq_false (by rw [c0];exact Bool.false_ne_true)) ?_;wp_walk using wpAny_loadPart' hl)
   | (refine wpAny_ite_true (decide_eq_true (by rw [c1])) ?_;wp_walk using wpAny_loadPart' hl))
  exact ⟨_,rfl,h⟩
theorem Q4 (l:Addr) (items:Array Value) (n:Nat) (dd:Option Addr) (sl:Array (Option Value)) (x:Int) (u:Tok) (c0:(decide (x< -(2 ^ 63)) || decide (x≥2 ^ 63))=false) (c1:(items.isEmpty || x==1)=false) (c2:(decide (x≤0) || items.isEmpty)=true) :
  Meets (Builtin.«tuple.__mul__» ⟨[.ref l,.int x u],[]⟩) (fun _ R s=>s.heap.get? l=some { cls:=.type "tuple",dict:=dd,data:=.seq items n,slots:=sl }∧
   R (.ok (.ret (Value.ref s.heap.objs.size))) { s with heap:=s.heap.push { cls:=Value.type "tuple",data:=Data.seq #[] },toks:=s.toks }):=
 .of_wp fun prog w A R s h=>by
  obtain ⟨hp,g,d,tk,os⟩:=s
  obtain ⟨hl,h⟩:=h
  have f1:=AutoSeq1.idx_int
  wp_walk using wpAny_loadPart' hl
  repeat (first
   | (refine wpAny_ite_false (decide_eq_false (by rw [c0];exact Bool.false_ne_true)) ?_;wp_walk using wpAny_loadPart' hl)
   | (refine wpAny_ite_false (decide_eq_false (by rw [c1];exact Bool.false_ne_true)) ?_;wp_walk using wpAny_loadPart' hl)
   | (refine wpAny_ite_true (decide_eq_true (by rw [c2])) ?_;wp_walk using wpAny_loadPart' hl))
  exact ⟨_,rfl,h⟩
end
theorem dgR {H:Hp} {a:Addr} {kvs:List (Key × V)} {k:Key} (e:Rd H a (.dK kvs)):DGet H a (kV k) (valV kvs k):=.inl ⟨kvs,k,e,rfl,rfl⟩
section
variable {G:bB} {k:Nat} {X:Cx}
def Jh (G:bB) (ρ:List Addr) (H:Hp) (S:Hs) (z:Vl) (Q:VK):Prop:=∀ ρ' H',Step ρ H ρ' H'→bf G ρ' H' S→okV G Q ρ' H' z S
def als (G:bB) (op:Operator):R2:=fun x y H Q=>∃ ρ S a b z,bf G ρ H S∧VR G ρ H a x∧VR G ρ H b y∧binop op a b=some z∧Jh G ρ H S z Q
theorem Jh.now {ρ:List Addr} {H:Hp} {S:Hs} {z:Vl} {Q:VK} (h:Jh G ρ H S z Q) (s:bf G ρ H S) {v:V} (r:VR G ρ H z v):Q v H:=h ρ H (Step.refl _ _) s v r
theorem Jh.tup {ρ:List Addr} {H:Hp} {S:Hs} {xs:List Vl} {vs:List V} {Q:VK} (h:Jh G ρ H S (.tup xs) Q) (s:bf G ρ H S) (r:au G ρ H xs vs) {p:Addr} (hp:H p=none):Q (.ref p) (upd H p (.tup vs)):=by
 have sm:Same H (upd H p (.tup vs)):=fK hp
 refine h ρ _ (bu sm) (s.same sm) _ ?_
 simp only [VR]
 exact ⟨p,vs,rfl,.inl ⟨.inl upd_same,s.free hp⟩,au.step (bu sm) _ _ r⟩
theorem acM:OpR X (binaryOp .Mult) (fun x y H Q=>∃ l k xs,x=.ref l∧y=.int k∧SqT X.K H l xs∧xs≠[]∧0≤k∧k≤1000∧xs.length≤1000∧(k=1→Q (.ref l) H)∧∀ p,H p=none→Q (.ref p) (upd H p (.tup (List.replicate k.toNat xs).flatten))):=by
 intro pins s σ H x y v u Q I rx ry ⟨l,k,xs,e1,e2,hT,Km,h0,h1,hz,q1,q⟩
 by_cases h2:2≤k
 ·exact op_repT pins s σ H x y v u Q I rx ry ⟨l,k,xs,e1,e2,hT,Km,h2,h1,hz,q⟩
 subst e1 e2
 cases rx
 obtain ⟨t,rfl⟩:=ry
 obtain ⟨its,r,⟨⟨cls,dd,data,sl⟩,ho,hc,n,hd⟩,hs⟩:=I.tuple hT
 simp only at hc hd
 subst hc hd
 have hle:its.length=xs.length:=r.length.symm
 have hi:its.toArray.isEmpty=false:=by
  cases its with
  | nil=>exact absurd (List.eq_nil_of_length_eq_zero hle.symm) Km
  | cons a b=>rfl
 have c0:(decide (k< -(2 ^ 63)) || decide (k≥2 ^ 63))=false:=by
  rw [decide_eq_false (by omega),decide_eq_false (by omega)]<;>rfl
 by_cases h3:k=1
 ·have c1:(its.toArray.isEmpty || k==1)=true:=by rw [h3];simp
  exact wpAny_binaryOp_repeat_ref (T:="tuple") (U:="int") (by decide) ⟨_,ho,rfl⟩ (fun s'=>typeIs_int s' k t) noFill_tuple_mul F.fills_int_mul F.slot_int_rmul repeat_tuple F.slot_int_index.lookup
   (call_meets F.slot_int_rmul (typeIs_int s k t) F.entry_int_rmul (F.args_int_rmul_2 _ _) (int_rmul_tuple k t l its.toArray n dd sl)
    ⟨ho,rfl,⟨_,ho,rfl⟩,call_meets F.slot_tuple_mul ⟨_,ho,rfl⟩ F.entry_tuple_mul (F.args_tuple_mul_2 _ _) (Qn l its.toArray n dd sl k t c0 c1) ⟨ho,⟨.ref l,H,I,rfl,q1 h3⟩⟩⟩)
 ·have c1:(its.toArray.isEmpty || k==1)=false:=by
   rw [hi,Bool.false_or]
   exact beq_eq_false_iff_ne.mpr h3
  have c2:(decide (k≤0) || its.toArray.isEmpty)=true:=by
   rw [decide_eq_true (by omega)];rfl
  have ek:k.toNat=0:=by omega
  rw [ek] at q
  refine wpAny_binaryOp_repeat_ref (T:="tuple") (U:="int") (by decide) ⟨_,ho,rfl⟩ (fun s'=>typeIs_int s' k t) noFill_tuple_mul F.fills_int_mul F.slot_int_rmul repeat_tuple F.slot_int_index.lookup
   (call_meets F.slot_int_rmul (typeIs_int s k t) F.entry_int_rmul (F.args_int_rmul_2 _ _) (int_rmul_tuple k t l its.toArray n dd sl)
    ⟨ho,rfl,⟨_,ho,rfl⟩,call_meets F.slot_tuple_mul ⟨_,ho,rfl⟩ F.entry_tuple_mul (F.args_tuple_mul_2 _ _) (Q4 l its.toArray n dd sl k t c0 c1 c2) ⟨ho,?_⟩⟩)
  refine ⟨.ref s.heap.objs.size,_,I.laid (t':=s.toks) (o:=.tup []) (fun b ob q=>Heap.get?_push_of_some _ q) (Nat.le_refl _) ?_,rfl,q _ (I.hok.fresh (Nat.le_refl _))⟩
  exact ⟨Nat.zero_le _,_,.nil,IsTup.new _ _⟩
theorem au.rep {ρ:List Addr} {H:Hp} {xs:List Vl} {vs:List V} (h:au G ρ H xs vs):∀ n:Nat,au G ρ H (List.replicate n xs).flatten (List.replicate n vs).flatten
 | 0=>au.nil
 | n+1=>by
  rw [List.replicate_succ,List.replicate_succ,List.flatten_cons,List.flatten_cons]
  exact h.append (au.rep h n)
theorem ahw (g:Good G k X) (op:Operator):OpR X (binaryOp op) (als G op):=by
 intro pins st σ H x y v u Q I rx ry h
 obtain ⟨ρ,S,a,b,z,s,ra,rb,e,q⟩:=h
 unfold binop at e
 split at e
 ·-- ints
  simp only [VR] at ra rb;subst ra rb;cases e
  exact op_add pins st σ H _ _ v u Q I rx ry ⟨_,_,rfl,rfl,q.now s (by simp only [VR])⟩
 ·simp only [VR] at ra rb;subst ra rb
  split at e
  ·rename_i hz
   cases e
   exact op_add_str pins st σ H _ _ v u Q I rx ry ⟨_,_,rfl,rfl,hz,q.now s (by simp only [VR])⟩
  ·cases e
 ·split at e
  ·rename_i xs ys hz
   cases e
   have ra':=ra
   simp only [VR] at ra rb
   obtain ⟨p,vs,rfl,h1,h2⟩:=ra
   obtain ⟨p',ws,rfl,h3,h4⟩:=rb
   have rb':VR G ρ H (.tup ys) (.ref p'):=by simp only [VR];exact ⟨p',ws,rfl,h3,h4⟩
   refine op_catA pins st σ H _ _ v u Q I rx ry ⟨p,p',vs,ws,rfl,rfl,by rw [g.K];exact h1.sq,by rw [g.K];exact h3.sq,by rw [← h2.length,← h4.length];exact hz,fun e=> ?_,fun _ e=> ?_,fun _ _ p hp=> ?_⟩
   ·subst e
    have:=h2.length
    obtain rfl:xs=[]:=List.eq_nil_of_length_eq_zero (by simpa using this)
    rw [List.nil_append] at q
    exact q.now s rb'
   ·subst e
    have:=h4.length
    obtain rfl:ys=[]:=List.eq_nil_of_length_eq_zero (by simpa using this)
    rw [List.append_nil] at q
    exact q.now s ra'
   ·exact q.tup s (h2.append h4) hp
  ·cases e
 ·simp only [VR] at ra rb;subst ra rb;cases e
  exact op_sub pins st σ H _ _ v u Q I rx ry ⟨_,_,rfl,rfl,q.now s (by simp only [VR])⟩
 ·simp only [VR] at ra rb;subst ra rb
  split at e
  ·rename_i hz
   cases e
   refine op_mul pins st σ H _ _ v u Q I rx ry ⟨_,_,rfl,rfl,?_,q.now s (by simp only [VR])⟩
   simp only [Vq,Bool.or_eq_true,Bool.and_eq_true,decide_eq_true_eq] at hz
   exact hz
  ·cases e
 ·split at e
  ·rename_i xs n hz
   cases e
   have ra':=ra
   simp only [VR] at ra rb
   subst rb
   obtain ⟨p,vs,rfl,h1,h2⟩:=ra
   refine acM pins st σ H _ _ v u Q I rx ry ⟨p,n,vs,rfl,rfl,by rw [g.K];exact h1.sq,fun e=> ?_,hz.2.1,hz.2.2.1,by rw [← h2.length];exact hz.2.2.2,fun e=> ?_,fun p' hp=>q.tup s (h2.rep _) hp⟩
   ·subst e
    exact hz.1 (List.eq_nil_of_length_eq_zero h2.length)
   ·subst e
    have e1:(List.replicate (1:Int).toNat xs).flatten=xs:=by simp
    rw [e1] at q
    exact q.now s ra'
  ·cases e
 ·simp only [VR] at ra rb;subst ra rb
  split at e
  ·rename_i hz
   cases e
   exact op_fdiv pins st σ H _ _ v u Q I rx ry ⟨_,_,rfl,rfl,hz,q.now s (by simp only [VR])⟩
  ·cases e
 ·simp only [VR] at ra rb;subst ra rb
  split at e
  ·rename_i hz
   cases e
   exact op_mod pins st σ H _ _ v u Q I rx ry ⟨_,_,rfl,rfl,hz,q.now s (by simp only [VR])⟩
  ·cases e
 ·simp only [VR] at ra rb;subst ra rb
  split at e
  ·rename_i hz
   cases e
   exact op_pow pins st σ H _ _ v u Q I rx ry ⟨_,_,rfl,rfl,hz,q.now s (by simp only [VR])⟩
  ·cases e
 ·cases e
def akZ (G:bB) (op:CmpOp):R2:=fun x y H Q=>∃ ρ S a b z,bf G ρ H S∧VR G ρ H a x∧VR G ρ H b y∧cmpop op S a b=some z∧Q (.bl z) H
def UnL (K:PySem.W.Frag) (H:Hp) (x y:V):Prop:=∃ p q vs ws,x=.ref p∧y=.ref q∧SqL K H p vs∧SqL K H q ws∧vs.length≠ws.length
theorem agO {ρ:List Addr} {H:Hp} {S:Hs} {a b:Vl} {x y:V} {z:Bool} (s:bf G ρ H S) (ra:VR G ρ H a x) (rb:VR G ρ H b y) (e:aaT S a b=some z):z=false∧UnL G.K H x y:=by
 unfold aaT at e
 split at e
 ·rename_i xs ys e1 e2
  split at e
  ·cases e
  ·rename_i hl
   cases e
   obtain ⟨p,vs,rfl,h1,h2⟩:=lQ s ra e1
   obtain ⟨q,ws,rfl,h3,h4⟩:=lQ s rb e2
   exact ⟨rfl,p,q,vs,ws,rfl,rfl,.inl h1,.inl h3,by rw [← h2.length,← h4.length];exact hl⟩
 ·cases e
theorem aai {ρ:List Addr} {H:Hp} {S:Hs} {a b:Vl} {x y:V} {z:Bool} (s:bf G ρ H S) (ra:VR G ρ H a x) (rb:VR G ρ H b y) (e:ph S a b=some z):(∃ d f,Dp G.K H x d∧Dp G.K H y f∧SeqAt.shaped d=true∧SeqAt.shaped f=true∧z=PyData.eqv d f)∨(z=false∧UnL G.K H x y):=by
 unfold ph at e
 split at e
 ·rename_i d f e1 e2
  split at e
  ·rename_i hs
   cases e
   exact .inl ⟨d,f,tX s ra e1,tX s rb e2,hs.1,hs.2,rfl⟩
  ·cases e
 ·exact .inr (agO s ra rb e)
theorem acF (hu:X.A.units+64<cLine):OpR X (compareOp .Eq) (fun x y H Q=>UnL X.K H x y∧Q (.bl false) H):=by
 intro pins s σ H x y v u Q I rx ry ⟨⟨p,q,vs,ws,e1,e2,h1,h2,hl⟩,hq⟩
 subst e1 e2
 cases (show v=Value.ref p from rx)
 cases (show u=Value.ref q from ry)
 obtain ⟨us,r1,p1,_⟩:=I.list h1
 obtain ⟨ts,r2,p2,_⟩:=I.list h2
 have hsz:(us.toArray.size !=ts.toArray.size)=true:=by
  rw [List.size_toArray,List.size_toArray,← r1.length,← r2.length]
  simpa using hl
 exact SeqAt.RcAt.lists_lengths p1.isList p2.isList hsz (by omega) _ _ _ _ ⟨.bl false,H,I,rfl,hq⟩
theorem adw (hu:X.A.units+64<cLine):OpR X (compareOp .NotEq) (fun x y H Q=>UnL X.K H x y∧Q (.bl true) H):=by
 intro pins s σ H x y v u Q I rx ry ⟨⟨p,q,vs,ws,e1,e2,h1,h2,hl⟩,hq⟩
 subst e1 e2
 cases (show v=Value.ref p from rx)
 cases (show u=Value.ref q from ry)
 obtain ⟨us,r1,p1,_⟩:=I.list h1
 obtain ⟨ts,r2,p2,_⟩:=I.list h2
 have hsz:(us.toArray.size !=ts.toArray.size)=true:=by
  rw [List.size_toArray,List.size_toArray,← r1.length,← r2.length]
  simpa using hl
 exact SeqAt.RcNeAt.lists_lengths p1.isList p2.isList hsz (by omega) _ _ _ _ ⟨.bl true,H,I,rfl,hq⟩
theorem afZ (g:Good G k X):OpR X (compareOp .In) (fun x y H Q=>∃ ρ S a b z,bf G ρ H S∧VR G ρ H a x∧VR G ρ H b y∧lU S a b=some z∧Q (.bl z) H):=by
 intro pins st σ H x y v u Q I rx ry h
 obtain ⟨ρ,S,a,b,z,s,ra,rb,e,q⟩:=h
 unfold lU at e
 split at e
 ·rename_i z'
  split at e
  ·rename_i w
   split at e
   ·rename_i hw
    simp only [VR] at ra rb;subst ra rb;cases e
    have hc:w=⟨#[w.cps.getD 0 0]⟩:=by
     obtain ⟨c⟩:=w
     have hs:c.size=1:=hw
     congr 1
     apply Array.ext
     ·simpa using hs
     ·intro i h1 h2
      have:i=0:=by omega
      subst this
      simp [Array.getD,hs]
    refine op_in_sign pins st σ H (.str w) (.str z') v u Q I rx ry ⟨w.cps.getD 0 0,z',by rw [← hc],rfl,q⟩
   ·cases e
  ·cases e
 ·split at e
  ·rename_i ks xs ed
   obtain ⟨p,kvs,rfl,h1,h2,h3⟩:=nR s rb ed
   obtain ⟨k',ek,rfl⟩:=Option.map_eq_some_iff.mp e
   obtain rfl:u=Value.ref p:=ry
   have hx:x=kV k':=by
    cases a<;>simp only [Vl.key] at ek<;>cases ek<;>(simp only [VR] at ra;subst ra;rfl)
   subst hx
   refine d_in g.u1 I (dgR h1) rx fun s' I'=>⟨.bl _,H,I',rfl,?_⟩
   rw [← acj h2]
   exact q
  ·split at e
   ·rename_i ys es
    split at e
    ·rename_i hf
     cases e
     rw [Bool.and_eq_true] at hf
     obtain ⟨p,vs,rfl,h1,h2⟩:=uw s rb es
     obtain ⟨f1,f2⟩:=h2.flats ra hf.2 hf.1
     refine op_in_seq pins st σ H x _ v u Q I rx ry ⟨p,vs,rfl,by rw [g.K];exact h1,ra.flat hf.1,f1,?_⟩
     rw [if_neg Bool.false_ne_true,f2]
     exact q
    ·split at e
     ·rename_i d ds e1 e2
      split at e
      ·rename_i hd
       cases e
       exact op_inD (by have:=g.room.un;omega) pins st σ H x _ v u Q I rx ry ⟨d,ds,by rw [g.K];exact tX s ra e1,by rw [g.K];exact tX s rb e2,hd.1,hd.2,q⟩
      ·cases e
     ·cases e
   ·cases e
theorem adJ (g:Good G k X):OpR X (compareOp .NotIn) (fun x y H Q=>∃ ρ S a b z,bf G ρ H S∧VR G ρ H a x∧VR G ρ H b y∧lU S a b=some z∧Q (.bl (!z)) H):=by
 intro pins st σ H x y v u Q I rx ry h
 obtain ⟨ρ,S,a,b,z,s,ra,rb,e,q⟩:=h
 unfold lU at e
 split at e
 ·rename_i z'
  split at e
  ·rename_i w
   split at e
   ·rename_i hw
    simp only [VR] at ra rb;subst ra rb;cases e
    have hc:w=⟨#[w.cps.getD 0 0]⟩:=by
     obtain ⟨c⟩:=w
     have hs:c.size=1:=hw
     congr 1
     apply Array.ext
     ·simpa using hs
     ·intro i h1 h2
      have:i=0:=by omega
      subst this
      simp [Array.getD,hs]
    refine op_notIn_sign pins st σ H (.str w) (.str z') v u Q I rx ry ⟨w.cps.getD 0 0,z',by rw [← hc],rfl,q⟩
   ·cases e
  ·cases e
 ·split at e
  ·rename_i ks xs ed
   obtain ⟨p,kvs,rfl,h1,h2,h3⟩:=nR s rb ed
   obtain ⟨k',ek,rfl⟩:=Option.map_eq_some_iff.mp e
   obtain rfl:u=Value.ref p:=ry
   have hx:x=kV k':=by
    cases a<;>simp only [Vl.key] at ek<;>cases ek<;>(simp only [VR] at ra;subst ra;rfl)
   subst hx
   refine d_notIn g.u1 I (dgR h1) rx fun s' I'=>⟨.bl _,H,I',rfl,?_⟩
   rw [← acj h2]
   exact q
  ·split at e
   ·rename_i ys es
    split at e
    ·rename_i hf
     cases e
     rw [Bool.and_eq_true] at hf
     obtain ⟨p,vs,rfl,h1,h2⟩:=uw s rb es
     obtain ⟨f1,f2⟩:=h2.flats ra hf.2 hf.1
     refine op_notIn_seq pins st σ H x _ v u Q I rx ry ⟨p,vs,rfl,by rw [g.K];exact h1,ra.flat hf.1,f1,?_⟩
     rw [if_pos rfl,f2]
     exact q
    ·split at e
     ·rename_i d ds e1 e2
      split at e
      ·rename_i hd
       cases e
       exact op_notInD (by have:=g.room.un;omega) pins st σ H x _ v u Q I rx ry ⟨d,ds,by rw [g.K];exact tX s ra e1,by rw [g.K];exact tX s rb e2,hd.1,hd.2,q⟩
      ·cases e
     ·cases e
   ·cases e
theorem VR.isN {ρ:List Addr} {H:Hp} {a:Vl} {x:V} (r:VR G ρ H a x):decide (x=V.non)=a.isNon:=by
 cases a<;>simp only [VR] at r<;>first
  | (subst r;rfl)
  | (obtain ⟨p,vs,rfl,_⟩:=r;rfl)
  | (obtain ⟨p,dx,fs,rfl,_⟩:=r;rfl)
  | (obtain ⟨p,rfl,_⟩:=r;rfl)
theorem afX {ρ:List Addr} {H:Hp} {a b:Vl} {x y:V} {z:Bool} (ra:VR G ρ H a x) (rb:VR G ρ H b y) (e:Yt a b=some z):scal x y=true∧z=decide (x=y):=by
 unfold Yt at e
 split at e
 all_goals first
  | (simp only [VR] at ra rb;subst ra rb;cases e;exact ⟨rfl,by simp⟩)
  | cases e
theorem acz {P:Program} {w:World} {A:Around} {s:Shared} {ρ:List Addr} {H:Hp} {a b:Vl} {x y:V} {z:Bool} {v u:Value} (ra:VR G ρ H a x) (rb:VR G ρ H b y) (e:Yt a b=some z) (rx:RelV x v) (ry:RelV y u):SeqAt.EqP P w A s v u z:=by
 unfold Yt at e
 split at e
 ·simp only [VR] at ra rb;subst ra rb;cases e
  obtain ⟨t,rfl⟩:=rx
  obtain ⟨t',rfl⟩:=ry
  exact (SeqAt.EqAt.int_int _ t _ t').eqP
 ·simp only [VR] at ra rb;subst ra rb;cases e
  cases rx;cases ry
  exact (SeqAt.EqAt.bool_bool _ _).eqP
 ·simp only [VR] at ra rb;subst ra rb;cases e
  obtain ⟨t,rfl⟩:=rx
  obtain ⟨t',rfl⟩:=ry
  exact (SeqAt.EqAt.str_str _ t _ t').eqP
 ·cases e
theorem V6:∀ {ks:List Key} {xs:List Vl} {kvs:List (Key × V)} {k:Key} {ρ:List Addr} {H:Hp},kvs.map (·.1)=ks→au G ρ H xs (kvs.map (·.2))→cG ks xs k=none→valV kvs k=none
 | [],_,[],_,_,_,_,_,_=>rfl
 | [],_,_::_,_,_,_,h,_,_=>by simp at h
 | _::_,_,[],_,_,_,h,_,_=>by simp at h
 | n::ns,[],_::_,_,_,_,_,h,_=>by simp [au] at h
 | n::ns,y::xs,(m,v)::fs,f,ρ,H,h,k,e=>by
  simp only [List.map_cons,List.cons.injEq] at h
  obtain ⟨rfl,h⟩:=h
  simp only [List.map_cons,au] at k
  obtain ⟨v',r,e1,k1,k2⟩:=k
  cases e1
  simp only [cG] at e
  by_cases q:m=f
  ·rw [if_pos q] at e;cases e
  ·rw [if_neg q] at e
   rw [valV_neg (p:=(m,v)) q]
   exact V6 h k2 e
theorem Pg {P:Program} {w:World} {A:Around} {s:Shared} {ρ:List Addr} {H:Hp} {S:Hs} {Ac:List Key} {xs':List Vl} {ls:List (Key × V)} {vb:List (Key × Value)} (hk:ls.map (·.1)=Ac) (hv:au G ρ H xs' (ls.map (·.2))) (rb:KV ls vb) :
  ∀ (ks:List Key) (xs:List Vl) (kvs:List (Key × V)) (va:List (Key × Value)) (z:Bool),kvs.map (·.1)=ks→au G ρ H xs (kvs.map (·.2))→KV kvs va→hitsD S ks xs Ac xs'=some z→PySem.W.KeqHitsP P w A s vb va z
 | [],_,[],va,z,_,_,ra,e=>by
  cases ra
  simp only [hitsD,Option.some.injEq] at e
  subst e
  exact .nil
 | [],_,_::_,_,_,h,_,_,_=>by simp at h
 | _::_,_,[],_,_,h,_,_,_=>by simp at h
 | n::ns,[],_::_,_,_,_,h,_,_=>by simp [au] at h
 | n::ns,y::xs,(m,v)::fs,va,z,h,k,ra,e=>by
  simp only [List.map_cons,List.cons.injEq] at h
  obtain ⟨rfl,h⟩:=h
  simp only [List.map_cons,au] at k
  obtain ⟨v',r,e1,k1,k2⟩:=k
  cases e1
  unfold KV at ra
  cases ra with
  | @cons _ q _ qs hq rq=>
   obtain ⟨q1,q2⟩:=q
   obtain ⟨e0,rv⟩:=hq
   simp only at e0 rv
   subst e0
   simp only [hitsD] at e
   split at e
   ·rename_i el
    cases e
    have e2:=V6 hk hv el
    have e3:=rb.val m
    rw [e2] at e3
    refine .miss ?_
    cases ev:valueAt vb m with
    | none=>rfl
    | some u=>rw [ev] at e3;exact e3.elim
   ·rename_i wv el
    split at e
    ·rename_i b eb
     obtain ⟨b',e4,rfl⟩:=Option.map_eq_some_iff.mp e
     obtain ⟨wu,e5,hw⟩:=M3 hk hv el
     have e3:RelO (some wu) (valueAt vb m):=by rw [← e5];exact rb.val m
     obtain ⟨u,hu,ru⟩:=e3.some_of
     exact .hit hu (acz k1 hw eb rv ru) (Pg (S:=S) hk hv rb ns xs fs qs b' h k2 rq e4)
    ·cases e
theorem agv (g:Good G k X):OpR X (compareOp .Eq) (fun x y H Q=>∃ ρ S a b z,bf G ρ H S∧VR G ρ H a x∧VR G ρ H b y∧vR S a b=some z∧Q (.bl z) H):=by
 intro pins s σ H x y v u Q I rx ry ⟨ρ,S,a,b,z,s0,ra,rb,e,q⟩
 unfold vR at e
 split at e
 ·rename_i ks vs Ac vs' e1 e2
  obtain ⟨p,kvs,rfl,h1,h2,h3⟩:=nR s0 ra e1
  obtain ⟨p',ls,rfl,h4,h5,h6⟩:=nR s0 rb e2
  cases (show v=Value.ref p from rx)
  cases (show u=Value.ref p' from ry)
  obtain ⟨_,ya,va,r1,da⟩:=dk_rd I.hok h1
  obtain ⟨_,yb,vb,r2,db⟩:=dk_rd I.hok h4
  have l1:va.length=ks.length:=by rw [← r1.length,← h2,List.length_map]
  have l2:vb.length=Ac.length:=by rw [← r2.length,← h5,List.length_map]
  split at e
  ·rename_i hl
   refine PySem.W.rcP_dicts (knd:=mixKind X.prog X.w) (r:=z) ya yb da db (by have:=g.u64;omega) (fun _=>Pg (S:=S) h5 h6 r2 ks vs kvs va z h2 h3 r1 e) X.xe _ ?_
   rw [show (va.length==vb.length&&z)=z by rw [l1,l2,hl];simp]
   exact ⟨.bl z,H,I,rfl,q⟩
  ·rename_i hl
   cases e
   refine PySem.W.rcP_dicts (knd:=mixKind X.prog X.w) (r:=true) ya yb da db (by have:=g.u64;omega) (fun z=>absurd z (by rw [l1,l2];exact hl)) X.xe _ ?_
   rw [show (va.length==vb.length&&true)=false by rw [l1,l2];simp [hl]]
   exact ⟨.bl false,H,I,rfl,q⟩
 ·cases e
theorem agP (g:Good G k X):OpR X (compareOp .NotEq) (fun x y H Q=>∃ ρ S a b z,bf G ρ H S∧VR G ρ H a x∧VR G ρ H b y∧Xg S a b=some z∧Q (.bl z) H):=by
 intro pins s σ H x y v u Q I rx ry ⟨ρ,S,a,b,z,s0,ra,rb,e,q⟩
 unfold Xg at e
 split at e
 ·rename_i ks vs vs' e1 e2
  obtain ⟨p,kvs,rfl,h1,h2,h3⟩:=nR s0 ra e1
  obtain ⟨p',ls,rfl,h4,h5,h6⟩:=nR s0 rb e2
  cases (show v=Value.ref p from rx)
  cases (show u=Value.ref p' from ry)
  obtain ⟨_,ya,va,r1,da⟩:=dk_rd I.hok h1
  obtain ⟨_,yb,vb,r2,db⟩:=dk_rd I.hok h4
  have l1:va.length=ks.length:=by rw [← r1.length,← h2,List.length_map]
  have l2:vb.length=0:=by rw [← r2.length,← List.length_map (as:=ls) (·.1),h5];rfl
  cases e
  refine PySem.W.keq_ne (knd:=mixKind X.prog X.w) (r:=true) ya yb da db (by have:=g.u64;omega) (fun hl=> ?_) ?_
  ·have:va=[]:=List.eq_nil_of_length_eq_zero (by omega)
   rw [this];exact .nil
  ·have:(!(va.length==vb.length&&true))= !ks.isEmpty:=by
    rw [l1,l2]
    cases ks<;>simp
   rw [this]
   exact ⟨.bl _,H,I,rfl,q⟩
 ·cases e
theorem Vw {ρ:List Addr} {H:Hp} {S:Hs} {a b:Vl} {x y:V} {z:Bool} (ra:VR G ρ H a x) (rb:VR G ρ H b y) (e:yh S a b=some z):(scal x y=true∧z=decide (x=y))∨vR S a b=some z∨(vR S a b=none∧ph S a b=some z):=by
 unfold yh at e
 split at e
 ·rename_i c ec
  cases e
  exact .inl (afX ra rb ec)
 ·split at e
  ·rename_i c ec
   cases e
   exact .inr (.inl ec)
  ·rename_i ec
   exact .inr (.inr ⟨ec,e⟩)
theorem Aj (g:Good G k X) (op:CmpOp):OpR X (compareOp op) (akZ G op):=by
 intro pins st σ H x y v u Q I rx ry h
 obtain ⟨ρ,S,a,b,z,s,ra,rb,e,q⟩:=h
 cases op with
 | Eq=>
  rcases Vw ra rb (show yh S a b=some z from e) with ⟨h1,rfl⟩ | e1 | ⟨_,e1⟩
  ·exact op_eq pins st σ H _ _ v u Q I rx ry ⟨h1,q⟩
  ·exact agv g pins st σ H _ _ v u Q I rx ry ⟨ρ,S,a,b,z,s,ra,rb,e1,q⟩
  ·rcases aai s ra rb e1 with ⟨d,f,h1,h2,h3,h4,rfl⟩ | ⟨rfl,hn⟩
   ·exact op_eqD g.u64 pins st σ H _ _ v u Q I rx ry ⟨d,f,by rw [g.K];exact h1,by rw [g.K];exact h2,h3,h4,q⟩
   ·exact acF g.u64 pins st σ H _ _ v u Q I rx ry ⟨by rw [g.K];exact hn,q⟩
 | NotEq=>
  have e0:(if (vR S a b).isSome then Xg S a b else (yh S a b).map not)=some z:=e
  split at e0
  ·exact agP g pins st σ H x y v u Q I rx ry ⟨ρ,S,a,b,z,s,ra,rb,e0,q⟩
  rename_i nd
  obtain ⟨z',e1,rfl⟩:=Option.map_eq_some_iff.mp e0
  rcases Vw ra rb e1 with ⟨h1,rfl⟩ | e1 | ⟨_,e1⟩
  ·exact op_ne pins st σ H _ _ v u Q I rx ry ⟨h1,q⟩
  ·rw [e1] at nd;exact absurd rfl nd
  ·rcases aai s ra rb e1 with ⟨d,f,h1,h2,h3,h4,rfl⟩ | ⟨rfl,hn⟩
   ·exact op_neD g.u64 pins st σ H _ _ v u Q I rx ry ⟨d,f,by rw [g.K];exact h1,by rw [g.K];exact h2,h3,h4,q⟩
   ·exact adw g.u64 pins st σ H _ _ v u Q I rx ry ⟨by rw [g.K];exact hn,q⟩
 | Lt=>
  simp only [cmpop] at e
  split at e
  ·simp only [VR] at ra rb;subst ra rb;cases e
   exact op_lt pins st σ H _ _ v u Q I rx ry ⟨_,_,rfl,rfl,q⟩
  ·cases e
 | LtE=>
  simp only [cmpop] at e
  split at e
  ·simp only [VR] at ra rb;subst ra rb;cases e
   exact op_le pins st σ H _ _ v u Q I rx ry ⟨_,_,rfl,rfl,q⟩
  ·cases e
 | Gt=>
  simp only [cmpop] at e
  split at e
  ·simp only [VR] at ra rb;subst ra rb;cases e
   exact op_gt pins st σ H _ _ v u Q I rx ry ⟨_,_,rfl,rfl,q⟩
  ·cases e
 | GtE=>
  simp only [cmpop] at e
  split at e
  ·simp only [VR] at ra rb;subst ra rb;cases e
   exact op_ge pins st σ H _ _ v u Q I rx ry ⟨_,_,rfl,rfl,q⟩
  ·cases e
 | Is=>
  simp only [cmpop] at e
  split at e
  ·simp only [VR] at rb;subst rb;cases e
   refine op_isN pins st σ H _ _ v u Q I rx ry ⟨rfl,?_⟩
   rw [ra.isN];exact q
  ·split at e
   ·simp only [VR] at ra rb;subst ra rb;cases e
    exact op_isBl pins st σ H _ _ v u Q I rx ry ⟨_,_,rfl,rfl,q⟩
   ·cases e
  ·cases e
 | IsNot=>
  simp only [cmpop] at e
  split at e
  ·simp only [VR] at rb;subst rb;cases e
   refine op_notN pins st σ H _ _ v u Q I rx ry ⟨rfl,?_⟩
   rw [ra.isN];exact q
  ·split at e
   ·simp only [VR] at ra rb;subst ra rb;cases e
    exact op_notBl pins st σ H _ _ v u Q I rx ry ⟨_,_,rfl,rfl,q⟩
   ·cases e
  ·cases e
 | In=>exact afZ g pins st σ H x y v u Q I rx ry ⟨ρ,S,a,b,z,s,ra,rb,e,q⟩
 | NotIn=>
  obtain ⟨z',e1,rfl⟩:=Option.map_eq_some_iff.mp (show (lU S a b).map not=some z from e)
  exact adJ g pins st σ H x y v u Q I rx ry ⟨ρ,S,a,b,z',s,ra,rb,e1,q⟩
end
section
variable {G:bB} {k:Nat} {X:Cx} {M:aF} {W:WX} {a b c:Expr} {ca cb cc:E} {pos:Pos}
theorem ad0 {i:Nat} {x:Str} (hN:X.N[i]? =some x) (hv:Vis X.env.scope x) (hd:(x==("__debug__":Str))=false) (Ab:(x==("__classdict__":Str))=false):PE X (.Name x pos) (tE G M W (.var i)):=
 (pe_var hN hv hd Ab).imp fun σ H Q ⟨ρ,η,S,s,r,h⟩=>by
  have h':PR G W σ ρ H (match η[i]? with | some (some x)=>Res.ok x S | _=>.bad) (okV G Q):=h
  split at h'
  ·rename_i x e
   obtain ⟨v,e1,e2⟩:=r.at_ i x e
   exact ⟨v,e1,(h'.here s) v e2⟩
  ·exact h'.elim
theorem zj {e:Expr} {x:Vl} {v:V} (he:PE X e (tC v)) (hx:∀ ρ H,VR G ρ H x v):PE X e (tE G M W (.cst x)):=
 he.imp fun σ H Q ⟨ρ,η,S,s,r,h⟩=>(PR.here h s) v (hx ρ H)
theorem aD (g:Good G k X) (op:Operator) (ha:PE X a (tE G M W ca)) (hb:PE X b (tE G M W cb)):PE X (.BinOp a op b pos) (tE G M W (.bin op ca cb)):=
 (pe_op (ahw g op) ha hb).imp fun σ H Q ⟨ρ,η,S,s,r,h⟩=>⟨ρ,η,S,s,r,(PR.bind h).mono fun ρ1 H1 x S1 bU s1 h1 v hv=>⟨ρ1,η,S1,s1,r.step bU,(PR.bind h1).mono fun ρ2 H2 y S2 st2 s2 h2 w hw=>by
  obtain ⟨z,e,h3⟩:=PR.ig h2
  exact ⟨ρ2,S2,x,y,z,s2,hv.step st2,hw,e,h3⟩⟩⟩
theorem acx (g:Good G k X) (o1 o2:CmpOp) (ha:PE X a (tE G M W ca)) (hb:PE X b (tE G M W cb)) (hc:PE X c (tE G M W cc)) (hm:lastMarks [o1,o2] [b,c]=false):PE X (.Compare a [o1,o2] [b,c] pos) (tE G M W (.Ru o1 o2 ca cb cc)):=
 (pe_chain (Aj g o1) (Aj g o2) ha hb hc hm).imp fun σ H Q ⟨ρ,η,S,s,r,h⟩=>⟨ρ,η,S,s,r,(PR.bind h).mono fun ρ1 H1 x S1 bU s1 h1 v hv=>⟨ρ1,η,S1,s1,r.step bU,(PR.bind h1).mono fun ρ2 H2 y S2 st2 s2 h2 w hw=>by
  obtain ⟨z,e,h3⟩:=PR.ig (PR.bind h2)
  have h4:=h3.here s2
  refine ⟨ρ2,S2,x,y,z,s2,hv.step st2,hw,e,z,rfl,?_⟩
  cases z with
  | false=>
   rw [if_neg Bool.false_ne_true] at h4 ⊢
   exact (PR.here h4 s2) _ (by simp only [VR])
  | true=>
   rw [if_pos rfl] at h4 ⊢
   refine ⟨ρ2,η,S2,s2,(r.step bU).step st2,(PR.bind h4).mono fun ρ3 H3 z S3 lN s3 h5 w' hw'=> ?_⟩
   obtain ⟨z',e',h6⟩:=PR.ig (PR.bind h5)
   have h7:=PR.here (h6.here s3) s3
   exact ⟨ρ3,S3,y,z,z',s3,hw.step lN,hw',e',h7 _ (by simp only [VR])⟩⟩⟩
theorem pG {rest:List Expr} (ha:PE X a (tE G M W ca)) (hb:PE X (.BoolOp .And (b::rest) pos) (tE G M W cb)):PE X (.BoolOp .And (a::b::rest) pos) (tE G M W (.band ca cb)):=
 (pe_and ha hb).imp fun σ H Q ⟨ρ,η,S,s,r,h⟩=>⟨ρ,η,S,s,r,(PR.bind h).mono fun ρ1 H1 x S1 bU s1 h1 v hv=>by
  cases x with
  | bl d=>
   simp only [VR] at hv;subst hv
   refine ⟨d,rfl,?_⟩
   cases d with
   | true=>rw [if_pos rfl];exact ⟨ρ1,η,S1,s1,r.step bU,h1⟩
   | false=>rw [if_neg Bool.false_ne_true];exact (PR.here h1 s1) _ (by simp only [VR])
  | _=>exact h1.elim⟩
theorem Mz (ha:PE X a (tE G M W ca)):PE X (.UnaryOp .USub a pos) (tE G M W (.neg ca)):=
 (pe_un un_neg ha).imp fun σ H Q ⟨ρ,η,S,s,r,h⟩=>⟨ρ,η,S,s,r,(PR.bind h).mono fun ρ1 H1 x S1 bU s1 h1 v hv=>by
  cases x with
  | int d=>
   simp only [VR] at hv;subst hv
   exact ⟨d,rfl,(PR.here h1 s1) _ (by simp only [VR])⟩
  | _=>exact h1.elim⟩
def okB (Q:Bool→Hp→Prop):List Addr→Hp→Vl→Hs→Prop:=fun _ H' x _=>∃ d,x=.bl d∧Q d H'
def tQ (G:bB) (M:aF) (W:WX) (c:E):TT:=fun σ H Q=>∃ ρ η S,bf G ρ H S∧ER G ρ H η σ∧PR G W σ ρ H (ev M c η S) (okB Q)
theorem adP {e:Expr} (h:PE X e (tE G M W ca)) (he:∀ whole,isTrue e X.env whole=(do let v ← whole;standAt e.pos;holding [v] (truthy v))):PT X e (tQ G M W ca):=
 (pt_val h he).imp fun σ H Q ⟨ρ,η,S,s,r,h⟩=>⟨ρ,η,S,s,r,h.mono fun ρ1 H1 x S1 bU s1 ⟨d,e,q⟩ v hv=>by
  subst e
  simp only [VR] at hv
  exact ⟨d,hv,q⟩⟩
theorem xR (ha:PT X a (tQ G M W ca)):PW X (.BoolOp .And [a] pos) (tQ G M W ca):=pw_and1 ha
theorem rB (ha:PT X a (tQ G M W ca)):PW X (.BoolOp .Or [a] pos) (tQ G M W ca):=pw_or1 ha
theorem _root_.L2.PW.imp {X:Cx} {e:Expr} {t t':TT} (h:PW X e t) (k:∀ σ H Q,t' σ H Q→t σ H Q):PW X e t':=⟨fun wh pins s σ H Q I q=>h.run wh pins s σ H Q I (k σ H Q q)⟩
theorem CZ {rest:List Expr} (ha:PT X a (tQ G M W ca)) (hb:PW X (.BoolOp .And (b::rest) pos) (tQ G M W cb)):PW X (.BoolOp .And (a::b::rest) pos) (tQ G M W (.band ca cb)):=
 (pw_and ha hb).imp fun σ H Q ⟨ρ,η,S,s,r,h⟩=>⟨ρ,η,S,s,r,(PR.bind h).mono fun ρ1 H1 x S1 bU s1 h1=>by
  cases x with
  | bl d=>
   refine ⟨d,rfl,?_⟩
   cases d with
   | true=>rw [if_pos rfl];exact ⟨ρ1,η,S1,s1,r.step bU,h1⟩
   | false=>
    rw [if_neg Bool.false_ne_true]
    obtain ⟨d',e',q⟩:=PR.here h1 s1
    cases e';exact q
  | _=>exact h1.elim⟩
theorem w6 {rest:List Expr} (ha:PT X a (tQ G M W ca)) (hb:PW X (.BoolOp .Or (b::rest) pos) (tQ G M W cb)):PW X (.BoolOp .Or (a::b::rest) pos) (tQ G M W (.bor ca cb)):=
 (pw_or ha hb).imp fun σ H Q ⟨ρ,η,S,s,r,h⟩=>⟨ρ,η,S,s,r,(PR.bind h).mono fun ρ1 H1 x S1 bU s1 h1=>by
  cases x with
  | bl d=>
   refine ⟨d,rfl,?_⟩
   cases d with
   | true=>
    rw [if_pos rfl]
    obtain ⟨d',e',q⟩:=PR.here h1 s1
    cases e';exact q
   | false=>rw [if_neg Bool.false_ne_true];exact ⟨ρ1,η,S1,s1,r.step bU,h1⟩
  | _=>exact h1.elim⟩
theorem kZ (ha:PT X a (tQ G M W ca)):PT X (.UnaryOp .Not a pos) (tQ G M W (.pK ca)):=
 (pt_not ha).imp fun σ H Q ⟨ρ,η,S,s,r,h⟩=>⟨ρ,η,S,s,r,(PR.bind h).mono fun ρ1 H1 x S1 bU s1 h1=>by
  cases x with
  | bl d=>
   obtain ⟨d',e',q⟩:=PR.here h1 s1
   cases e';exact ⟨d,rfl,q⟩
  | _=>exact h1.elim⟩
theorem acC (g:Good G k X) (o1 o2:CmpOp) (ha:PE X a (tE G M W ca)) (hb:PE X b (tE G M W cb)) (hc:PE X c (tE G M W cc)) (hm:lastMarks [o1,o2] [b,c]=false):PT X (.Compare a [o1,o2] [b,c] pos) (tQ G M W (.Ru o1 o2 ca cb cc)):=
 (pt_chain (Aj g o1) (Aj g o2) ha hb hc hm).imp fun σ H Q ⟨ρ,η,S,s,r,h⟩=>⟨ρ,η,S,s,r,(PR.bind h).mono fun ρ1 H1 x S1 bU s1 h1 v hv=>⟨ρ1,η,S1,s1,r.step bU,(PR.bind h1).mono fun ρ2 H2 y S2 st2 s2 h2 w hw=>by
  obtain ⟨z,e,h3⟩:=PR.ig (PR.bind h2)
  have h4:=h3.here s2
  refine ⟨ρ2,S2,x,y,z,s2,hv.step st2,hw,e,z,rfl,?_⟩
  cases z with
  | false=>
   rw [if_neg Bool.false_ne_true] at h4 ⊢
   obtain ⟨d',e',q⟩:=PR.here h4 s2
   cases e';exact ⟨false,rfl,q⟩
  | true=>
   rw [if_pos rfl] at h4 ⊢
   refine ⟨ρ2,η,S2,s2,(r.step bU).step st2,(PR.bind h4).mono fun ρ3 H3 z S3 lN s3 h5 w' hw'=> ?_⟩
   obtain ⟨z',e',h6⟩:=PR.ig (PR.bind h5)
   obtain ⟨d',e2,q⟩:=PR.here (h6.here s3) s3
   cases e2
   exact ⟨ρ3,S3,y,z,z',s3,hw.step lN,hw',e',z',rfl,q⟩⟩⟩
theorem j9 {t:Expr} {ct:E} (ht:PT X t (tQ G M W ct)) (ha:PE X a (tE G M W ca)) (hb:PE X b (tE G M W cb)):PE X (.IfExp t a b pos) (tE G M W (.ite ct ca cb)):=
 (pe_ifExp ht ha hb).imp fun σ H Q ⟨ρ,η,S,s,r,h⟩=>⟨ρ,η,S,s,r,(PR.bind h).mono fun ρ1 H1 x S1 bU s1 h1=>by
  cases x with
  | bl d=>
   refine ⟨d,rfl,?_⟩
   cases d with
   | true=>rw [if_pos rfl];exact ⟨ρ1,η,S1,s1,r.step bU,h1⟩
   | false=>rw [if_neg Bool.false_ne_true];exact ⟨ρ1,η,S1,s1,r.step bU,h1⟩
  | _=>exact h1.elim⟩
theorem gJ:PA X [] (tA G M W .nil):=pa_nil.imp fun σ H Q ⟨ρ,η,S,s,r,h⟩=>(PR.here h s) [] au.nil
theorem t7 {es:List Expr} {cU:Es} (ha:PE X a (tE G M W ca)) (hr:PA X es (tA G M W cU)) (hs:starEach (a::es) X.env=(false,eval a X.env)::starEach es X.env):PA X (a::es) (tA G M W (.cons ca cU)):=
 (pa_cons ha hr hs).imp fun σ H Q ⟨ρ,η,S,s,r,h⟩=>⟨ρ,η,S,s,r,(PR.bind h).mono fun ρ1 H1 x S1 bU s1 h1 v hv=>⟨ρ1,η,S1,s1,r.step bU,(PR.bind h1).mono fun ρ2 H2 xs S2 st2 s2 h2 vs xO=>(PR.here h2 s2) _ (au.cons (hv.step st2) xO)⟩⟩
theorem d7 {es:List Expr} {cU:Es} {x1:Nat} (h:PA X es (tA G M W cU)):PE X (.Tuple es x1 pos) (tE G M W (.tup cU)):=
 (pe_tup h).imp fun σ H Q ⟨ρ,η,S,s,r,h⟩=>⟨ρ,η,S,s,r,(PR.bind h).mono fun ρ1 H1 xs S1 bU s1 h1 vs xO=>by
  split at h1
  ·rename_i hz
   refine ⟨by rw [← xO.length];exact hz,fun p hp=> ?_⟩
   exact Jh.tup (ρ:=ρ1) (fun ρ' H' st s'=>PR.here (h1.step st) s') s1 xO hp
  ·exact h1.elim⟩
theorem oK (g:Good G k X) {f:Str} (hC:∀ c,Cls X.K (G.cl c)) (hf:∀ c,NoAttr X.K (G.cl c) f) (ha:PE X a (tE G M W ca)) (hb:attributeBase a f X.env (eval a X.env)=eval a X.env):PE X (.Attribute a f pos) (tE G M W (.fld ca f)):=
 (pe_fld ha hb).imp fun σ H Q ⟨ρ,η,S,s,r,h⟩=>⟨ρ,η,S,s,r,(PR.bind h).mono fun ρ1 H1 x S1 bU s1 h1 v hv=>by
  split at h1
  ·rename_i c ns vs e
   obtain ⟨p,dx,fs,rfl,h2,h3,h4⟩:=Ml s1 hv e
   obtain ⟨y,e1,h5⟩:=PR.ig h1
   obtain ⟨w,e2,hw⟩:=W4 h3 h4 e1
   exact ⟨p,_,dx,fs,w,rfl,h2,hC c,hf c,e2,(PR.here h5 s1) w hw⟩
  ·exact h1.elim⟩
end
end Oz
set_option autoImplicit false
namespace Oz
open PySem L2 PyProof.Rows
section
variable {G:bB} {k:Nat} {X:Cx} {ρ:List Addr} {H:Hp} {S:Hs}
theorem au.atI {xs:List Vl} {vs:List V} {i:Int} {x:Vl} (h:au G ρ H xs vs) (e:atI xs i=some x):∃ v,L2.atI vs i=some v∧VR G ρ H x v:=by
 unfold L2.atI at e ⊢
 rw [← h.length]
 cases q:ixN xs.length i with
 | none=>rw [q] at e;cases e
 | some j=>
  rw [q] at e
  exact h.get e
def alY (G:bB):R2:=fun x y H Q=>∃ ρ S a b z,bf G ρ H S∧VR G ρ H a x∧VR G ρ H b y∧dM S a b=some z∧Jh G ρ H S z Q
theorem aaV (g:Good G k X):IxR X (alY G):=by
 intro ve se pins st σ H x y v u Q I rx ry h hs
 obtain ⟨ρ,S,a,b,z,s,ra,rb,e,q⟩:=h
 unfold dM at e
 split at e
 ·simp only [VR] at ra rb;subst ra rb
  split at e
  ·rename_i hz
   obtain ⟨c,ec,rfl⟩:=Option.map_eq_some_iff.mp e
   exact ix_str ve se pins st σ H _ _ v u Q I rx ry ⟨_,_,c,rfl,rfl,hz,ec,q.now s (by simp only [VR])⟩ hs
  ·cases e
 ·split at e
  ·rename_i ks xs ed
   obtain ⟨k',ek,el⟩:=Option.bind_eq_some_iff.mp e
   obtain ⟨p,kvs,rfl,h1,h2,h3⟩:=nR s ra ed
   obtain ⟨w,e1,e2⟩:=M3 h2 h3 el
   obtain rfl:v=Value.ref p:=rx
   have hy:y=kV k':=by
    cases b<;>simp only [Vl.key] at ek<;>cases ek<;>(simp only [VR] at rb;subst rb;rfl)
   subst hy
   have gd:DGet H p (kV k') (some w):=by rw [← e1];exact dgR h1
   exact tail_any (dict_typeIs I gd) slot_dict_getitem.lookup (d_getItem g.u1 I gd ry fun w' s' I' r'=>⟨w,H,I',r',q.now s e2⟩) hs
  ·split at e
   ·rename_i i ys _ es _
    obtain ⟨p,vs,rfl,h1,h2⟩:=uw s ra es
    simp only [VR] at rb;subst rb
    obtain ⟨w,e1,e2⟩:=h2.atI e
    rcases h1 with h1 | h1
    ·exact ix_list ve se pins st σ H _ _ v u Q I rx ry ⟨p,vs,_,w,rfl,rfl,by rw [g.K];exact h1,e1,q.now s e2⟩ hs
    ·exact ix_tup ve se pins st σ H _ _ v u Q I rx ry ⟨p,vs,_,w,rfl,rfl,by rw [g.K];exact h1,e1,q.now s e2⟩ hs
   ·cases e
end
section
variable {G:bB} {k:Nat} {X:Cx} {M:aF} {W:WX} {a b c:Expr} {ca cb cc:E} {pos:Pos}
theorem aeo (g:Good G k X) (ha:PE X a (tE G M W ca)) (hb:PE X b (tE G M W cb)) (hs:PlainIx b):PE X (.Subscript a b pos) (tE G M W (.idx ca cb)):=
 (pe_ix (aaV g) ha hb hs).imp fun σ H Q ⟨ρ,η,S,s,r,h⟩=>⟨ρ,η,S,s,r,(PR.bind h).mono fun ρ1 H1 x S1 bU s1 h1 v hv=>⟨ρ1,η,S1,s1,r.step bU,(PR.bind h1).mono fun ρ2 H2 y S2 st2 s2 h2 w hw=>by
  obtain ⟨z,e,h3⟩:=PR.ig h2
  exact ⟨ρ2,S2,x,y,z,s2,hv.step st2,hw,e,h3⟩⟩⟩
def tO (G:bB) (M:aF) (W:WX) (c:Oe):TO:=fun σ H Q=>∃ ρ η S,bf G ρ H S∧ER G ρ H η σ∧PR G W σ ρ H (YD M c η S) (fun _ H' o _=>Q o H')
theorem _root_.L2.PO.imp {X:Cx} {e:Option Expr} {t t':TO} (h:PO X e t) (k:∀ σ H Q,t' σ H Q→t σ H Q):PO X e t':=⟨fun pins s σ H Q I q=>h.run pins s σ H Q I (k σ H Q q)⟩
theorem gR:PO X none (tO G M W .none):=po_none.imp fun σ H Q ⟨ρ,η,S,s,r,h⟩=>PR.here h s
theorem ir (h:PE X a (tE G M W ca)):PO X (some a) (tO G M W (.some ca)):=
 (po_some h).imp fun σ H Q ⟨ρ,η,S,s,r,h⟩=>⟨ρ,η,S,s,r,(PR.bind h).mono fun ρ1 H1 x S1 bU s1 h1 v hv=>by
  cases x with
  | int i=>simp only [VR] at hv;subst hv;exact ⟨i,rfl,PR.here h1 s1⟩
  | _=>exact h1.elim⟩
theorem au.cut {ρ:List Addr} {H:Hp} {xs:List Vl} {vs:List V} (lo hi:Option Int) (h:au G ρ H xs vs):au G ρ H (uo xs lo hi) (cutV vs lo hi):=by
 unfold uo cutV
 rw [← h.length]
 exact (h.drop _).take _
def al4 (G:bB):V→Option Int→Option Int→Hp→VK→Prop:=fun x lo hi H Q=>∃ ρ S a z,bf G ρ H S∧VR G ρ H a x∧HS a lo hi=some z∧Jh G ρ H S z Q
theorem agH (g:Good G k X):SlR X (al4 G):=by
 intro pins st σ H x v vl vu lo hi sl Q I rx hs pl pu h
 obtain ⟨ρ,S,a,z,s,ra,e,q⟩:=h
 unfold HS at e
 split at e
 ·simp only [VR] at ra;subst ra
  split at e
  ·rename_i hz
   cases e
   exact sl_str pins st σ H _ v vl vu lo hi sl Q I rx hs pl pu ⟨_,rfl,hz,q.now s (by simp only [VR])⟩
  ·cases e
 ·rename_i xs
  cases e
  have ra':=ra
  simp only [VR] at ra
  obtain ⟨p,vs,rfl,h1,h2⟩:=ra
  refine sl_tupA pins st σ H _ v vl vu lo hi sl Q I rx hs pl pu ⟨p,vs,rfl,by rw [g.K];exact h1.sq,fun hw=> ?_,fun _ p' hp=>q.tup s (h2.cut lo hi) hp⟩
  rw [← h2.length] at hw
  have:uo xs lo hi=xs:=by
   unfold uo
   rw [hw.1,hw.2]
   simp
  rw [this] at q
  exact q.now s ra'
 ·cases e
theorem j8 (g:Good G k X) {lo hi:Option Expr} {cl ch:Oe} {p2:Pos} (ha:PE X a (tE G M W ca)) (hl:PO X lo (tO G M W cl)) (hh:PO X hi (tO G M W ch)):PE X (.Subscript a (.Slice lo hi none p2) pos) (tE G M W (.Cu ca cl ch)):=
 (pe_slice (agH g) ha hl hh).imp fun σ H Q ⟨ρ,η,S,s,r,h⟩=>⟨ρ,η,S,s,r,(PR.bind h).mono fun ρ1 H1 x S1 bU s1 h1 v hv=>⟨ρ1,η,S1,s1,r.step bU,(PR.bind h1).mono fun ρ2 H2 l S2 st2 s2 h2=>⟨ρ2,η,S2,s2,(r.step bU).step st2,(PR.bind h2).mono fun ρ3 H3 u S3 lN s3 h3=>by
  obtain ⟨z,e,h4⟩:=PR.ig h3
  exact ⟨ρ3,S3,x,z,s3,(hv.step st2).step lN,e,h4⟩⟩⟩⟩
structure ahK (G:bB) (w:World) (d:Addr) (kv:List (Str × Vl)):Prop where
 it:∃ (es:Array DictEntry) (n:Nat),KDict G.K w d es n∧Paired (fun (e:DictEntry) (p:Str × Vl)=>(∃ t,e.key=.str p.1 t)∧∃ v,RelV v e.val∧∀ ρ H,VR G ρ H p.2 v) es.toList kv
theorem WR {G:bB} {z:Str}:∀ {es:List DictEntry} {kv:List (Str × Vl)},Paired (fun (e:DictEntry) (p:Str × Vl)=>(∃ t,e.key=.str p.1 t)∧∃ v,RelV v e.val∧∀ ρ H,VR G ρ H p.2 v) es kv→
  (es.any (·.refKey))=false∧((kv.lookup z=none∧es.find? (·.key.isStr z)=none)∨∃ e x v,es.find? (·.key.isStr z)=some e∧kv.lookup z=some x∧RelV v e.val∧∀ ρ H,VR G ρ H x v)
 | _,_,.nil=>⟨rfl,.inl ⟨rfl,rfl⟩⟩
 | e::es,(y,x)::kv,.cons ⟨⟨t,e1⟩,v,e2,e3⟩ r=>by
  obtain ⟨i1,i2⟩:=WR (z:=z) r
  refine ⟨?_,?_⟩
  ·rw [List.any_cons,i1]
   have:e.refKey=false:=by
    unfold DictEntry.refKey
    rw [e1]
   rw [this];rfl
  ·have hk:e.key.isStr z=(y==z):=by rw [e1];rfl
   rw [List.find?_cons,hk,List.lookup_cons]
   by_cases q:y=z
   ·subst q
    simp only [beq_self_eq_true]
    exact .inr ⟨e,x,v,rfl,rfl,e2,e3⟩
   ·have q1:(y==z)=false:=beq_eq_false_iff_ne.mpr q
    have q2:(z==y)=false:=beq_eq_false_iff_ne.mpr (Ne.symm q)
    rw [q1,q2]
    exact i2
theorem ahK.look {w:World} {d:Addr} {kv:List (Str × Vl)} (h:ahK G w d kv) (z:Str):∃ es n,KDict G.K w d es n∧((kv.lookup z=none∧PySem.W.nsIn G.K d z=some none)∨∃ x v u,kv.lookup z=some x∧PySem.W.nsIn G.K d z=some (some u)∧RelV v u∧∀ ρ H,VR G ρ H x v):=by
 obtain ⟨es,n,D,P⟩:=h.it
 refine ⟨es,n,D,?_⟩
 obtain ⟨i1,i2⟩:=WR (z:=z) P
 unfold PySem.W.nsIn
 rw [D.at_]
 rcases i2 with ⟨e1,e2⟩ | ⟨e,x,v,e1,e2,e3,e4⟩
 ·refine .inl ⟨e1,?_⟩
  show (match es.toList.find? (·.key.isStr z) with | some e=>some (some e.val) | none=>if es.toList.any (·.refKey) then none else some none)=some none
  rw [e2,i1];rfl
 ·refine .inr ⟨x,v,e.val,e2,?_,e3,e4⟩
  show (match es.toList.find? (·.key.isStr z) with | some e=>some (some e.val) | none=>if es.toList.any (·.refKey) then none else some none)=some (some e.val)
  rw [e1]
theorem OR.inl {ρ:List Addr} {H:Hp} {o:Ob} {p:Addr} (h:OR G ρ H p o) (n:p∉ρ):VR G ρ H o.inl (.ref p):=by
 cases o with
 | lst xs=>obtain ⟨vs,h1,h2⟩:=h;show VR G ρ H (.lst xs) _;simp only [VR];exact ⟨p,vs,rfl,⟨.inl h1,n⟩,h2⟩
 | dct ks xs=>obtain ⟨kvs,h1,h2,h3⟩:=h;show VR G ρ H (.dct ks xs) _;simp only [VR];exact ⟨p,kvs,rfl,.inl h1,n,h2,h3⟩
 | ins c ns xs=>obtain ⟨dx,fs,h1,h2,h3⟩:=h;show VR G ρ H (.obj c ns xs) _;simp only [VR];exact ⟨p,dx,fs,rfl,h1,n,h2,h3⟩
 | zU ks xs=>obtain ⟨kvs,od,h1,h2,h3⟩:=h;show VR G ρ H (.dct ks xs) _;simp only [VR];exact ⟨p,kvs,rfl,.inr ⟨od,h1⟩,n,h2,h3⟩
theorem aR {f:F} (h:PE X a (tF G M W f)):PE X a (tE G M W (.inl f)):=
 h.imp fun σ H Q ⟨ρ,η,S,s,r,h⟩=>⟨ρ,η,S,s,r,(PR.bind h).mono fun ρ1 H1 o S1 bU s1 h1 p hp n ho _=>(PR.here h1 s1) _ (ho.inl n)⟩
theorem Step.one {ρ ρ1:List Addr} {H H1:Hp} (st:Step ρ H ρ1 H1) {p:Addr} (hp:H p=none):Step ρ H (ρ1++[p]) H1:=
 ⟨st.pre.trans (List.prefix_append _ _),st.keep,fun a ha=>by
  rcases List.mem_append.mp ha with ha | ha
  ·exact st.new a ha
  ·obtain rfl:a=p:=by simpa using ha
   exact .inr hp,st.fz⟩
theorem iy {f:F} (h:PE X a (tF G M W f)):PE X a (tE G M W (.Cz f)):=
 h.imp fun σ H Q ⟨ρ,η,S,s,r,h⟩=>⟨ρ,η,S,s,r,by
  have h0:PR G W σ ρ H ((d9 M f η S).bind fun o S1=>.ok (.ref S1.length) (S1++[o])) (okV G Q):=h
  cases e:d9 M f η S with
  | ok o S1=>
   rw [e] at h0
   exact fun ρ1 H1 bU s1 p hp n ho sx=>h0 (ρ1++[p]) H1 (bU.one hp) sx _ (by simp only [VR];exact ⟨p,rfl,by rw [← s1.len];simp⟩)
  | exc x S1=>rw [e] at h0;exact h0
  | bad=>rw [e] at h0;exact h0⟩
theorem none_of {ρ ρ1:List Addr} {H H1:Hp} {S S1:Hs} (s:bf G ρ H S) (s1:bf G ρ1 H1 S1) (st:Step ρ H ρ1 H1) {p:Addr} (hp:H1 p=none):H p=none:=by
 cases q:H p with
 | none=>rfl
 | some o=>
  by_cases n:p∈ρ
  ·exact absurd (st.pre.subset n) (s1.free hp)
  ·rw [st.keep p o q n] at hp;cases hp
theorem jC {ρ:List Addr} {H H0:Hp} {S S0:Hs} {σ:L2.St} {W':WX} {o:Ob} {Q:VK} {u:HO} {p:Addr} {ρ0:List Addr} (s0:bf G ρ0 H0 S0) (st0:Step ρ0 H0 ρ H) (s:bf G ρ H S) (h:PR G W' σ ρ H (.ok o S) (Cd G H0 Q)) (hp:H p=none)
  (ho:∀ ρ',Step ρ H ρ' (upd H p u)→OR G ρ' (upd H p u) p o):Q (.ref p) (upd H p u):=by
 have sm:Same H (upd H p u):=fK hp
 have n:p∉ρ:=s.free hp
 have bU:Step ρ H (ρ++[p]) (upd H p u):=(bu sm).one hp
 refine h ρ _ (bu sm) (s.same sm) p (none_of s0 s st0 hp) n (ho ρ (bu sm)) ⟨by simp [s.len],?_,fun r o' a h1 h2=> ?_⟩
 ·rw [List.nodup_append]
  exact ⟨s.nd,by simp,fun x hx y hy=>by
   have:y=p:=by simpa using hy
   subst this
   exact fun e=>n (e ▸ hx)⟩
 ·by_cases hr:r<S.length
  ·rw [List.getElem?_append_left hr] at h1
   rw [List.getElem?_append_left (by rw [s.len];exact hr)] at h2
   exact (s.at_ r o' a h1 h2).same bU sm
  ·have TV:r=S.length:=by
    have:=(List.getElem?_eq_some_iff.mp h1).1
    simp at this
    omega
   subst TV
   have e1:o'=o:=by simpa using h1.symm
   have e2:a=p:=by rw [← s.len] at h2;simpa using h2.symm
   subst e1 e2
   exact ho _ bU
end
end Oz
namespace Oz
open PySem L2 PyProof.Rows
section
variable {G:bB} {k:Nat} {X:Cx} {M:aF} {W:WX} {a b c:Expr} {ca cb cc:E} {pos:Pos}
theorem dY {es:List Expr} {cU:Es} (h:PA X es (tA G M W cU)):PE X (.List es pos) (tF G M W (.lst cU)):=
 (pe_lst h).imp fun σ H Q ⟨ρ,η,S,s,r,h⟩=>⟨ρ,η,S,s,r,(PR.bind h).mono fun ρ1 H1 xs S1 bU s1 h1 vs xO=>by
  split at h1
  ·rename_i hz
   exact ⟨by rw [← xO.length];exact hz,fun p hp=>jC s bU s1 h1 hp fun ρ' gG=>⟨vs,upd_same,au.step gG _ _ xO⟩⟩
  ·exact h1.elim⟩
theorem adC:OpR X (binaryOp .Add) (fun x y H Q=>∃ l b xs zs,x=.ref l∧y=.ref b∧Rd H l (.lst xs)∧Rd H b (.lst zs)∧xs.length+zs.length≤sizeLine∧∀ p,H p=none→Q (.ref p) (upd H p (.lst (xs++zs)))):=by
 intro pins s σ H x y v u Q I rx ry ⟨l,b,xs,zs,ex,ey,h1,h2,hz,q⟩
 subst ex ey
 cases rx
 cases ry
 obtain ⟨_,its,n,r,e⟩:=h1.ok I.hok
 obtain ⟨_,its2,n2,r2,e2⟩:=h2.ok I.hok
 have l1:=r.length
 have l2:=r2.length
 refine PySem.P.add_list e e2 ?_ (by simp only [List.size_toArray];omega)
 rw [show its.toArray++its2.toArray=(its++its2).toArray by simp]
 exact ⟨.ref _,_,I.lnew (t':=s.toks) (r.append r2) (by simp only [List.length_append];omega),rfl,q _ I.fresh⟩
theorem Du (ha:PE X a (tE G M W ca)) (hb:PE X b (tE G M W cb)):PE X (.BinOp a .Add b pos) (tF G M W (.cat ca cb)):=
 (pe_op adC ha hb).imp fun σ H Q ⟨ρ,η,S,s,r,h⟩=>⟨ρ,η,S,s,r,(PR.bind h).mono fun ρ1 H1 x S1 bU s1 h1 v hv=>⟨ρ1,η,S1,s1,r.step bU,(PR.bind h1).mono fun ρ2 H2 y S2 st2 s2 h2 w hw=>by
  split at h2
  ·rename_i xs ys e1 e2
   split at h2
   ·rename_i hz
    obtain ⟨p,vs,rfl,g1,g2⟩:=lQ s2 (hv.step st2) e1
    obtain ⟨p',ws,rfl,g3,g4⟩:=lQ s2 hw e2
    exact ⟨p,p',vs,ws,rfl,rfl,g1,g3,by rw [← g2.length,← g4.length];exact hz,fun q hq=>jC s (bU.trans st2) s2 h2 hq fun ρ' gG=>⟨_,upd_same,au.step gG _ _ (g2.append g4)⟩⟩
   ·exact h2.elim
  ·exact h2.elim⟩⟩
theorem aho (g:Good G k X) {lo hi:Option Expr} {cl ch:Oe} {p2:Pos} (ha:PE X a (tE G M W ca)) (hl:PO X lo (tO G M W cl)) (hh:PO X hi (tO G M W ch)):PE X (.Subscript a (.Slice lo hi none p2) pos) (tF G M W (.slc ca cl ch)):=
 (pe_slice sl_list ha hl hh).imp fun σ H Q ⟨ρ,η,S,s,r,h⟩=>⟨ρ,η,S,s,r,(PR.bind h).mono fun ρ1 H1 x S1 bU s1 h1 v hv=>⟨ρ1,η,S1,s1,r.step bU,(PR.bind h1).mono fun ρ2 H2 l S2 st2 s2 h2=>⟨ρ2,η,S2,s2,(r.step bU).step st2,(PR.bind h2).mono fun ρ3 H3 u S3 lN s3 h3=>by
  split at h3
  ·rename_i xs e
   obtain ⟨p,vs,rfl,g1,g2⟩:=lQ s3 ((hv.step st2).step lN) e
   exact ⟨p,vs,rfl,.inl g1,fun q hq=>jC s ((bU.trans st2).trans lN) s3 h3 hq fun ρ' gG=>⟨_,upd_same,au.step gG _ _ (g2.cut _ _)⟩⟩
  ·exact h3.elim⟩⟩⟩
theorem vH (ha:PE X a (tE G M W ca)) (hs:starEach [a] X.env=[(false,eval a X.env)]):PA X [a] (tCons (tE G M W ca) tNil):=pa_cons ha pa_nil (by rw [hs];rfl)
theorem af4 (g:Good G k X) {p:Pos} (hg:Gl X "list") (hm:X.mg "list"=none) (ha:PE X a (tE G M W ca)) (hs:starEach [a] X.env=[(false,eval a X.env)]):PE X (.Call (.Name "list" p) [a] [] pos) (tF G M W (.cpy ca)):=
 (pe_callTy call_list_of hg hm (by decide+kernel) (vH ha hs) (by decide) (by decide) (by rw [hs];rfl) rfl).imp fun σ H Q ⟨ρ,η,S,s,r,h⟩=>⟨ρ,η,S,s,r,(PR.bind h).mono fun ρ1 H1 x S1 bU s1 h1 v hv=>by
  split at h1
  ·rename_i xs e
   obtain ⟨p,vs,rfl,g1,g2⟩:=uw s1 hv e
   exact ⟨p,vs,rfl,by rw [g.K];exact g1,fun q hq=>jC s bU s1 h1 hq fun ρ' gG=>⟨_,upd_same,au.step gG _ _ g2⟩⟩
  ·exact h1.elim⟩
def rB1 (G:bB) (f:B1):List V→Hp→VK→Prop:=fun xs H Q=>∃ ρ S a z x,xs=[x]∧bf G ρ H S∧VR G ρ H a x∧gY f S a=some z∧Jh G ρ H S z Q
def B1.fv:B1→Value
 | .len=>.builtin "len" | .all=>.builtin "all" | .any=>.builtin "any" | .repr=>.builtin "repr" | .sum=>.builtin "sum" | .max=>.builtin "max"
 | .tuple=>.type "tuple" | .str=>.type "str" | .int=>.type "int"
theorem Su (g:Good G k X) {pins:List (Addr × Obj)} {s:Shared} {σ:L2.St} {H:Hp} {x:V} {u:Value} {d:PyData} {Q:VK} (I:Inv X pins σ H s) (r:RelV x u) (h:Dp X.K H x d) (h1:d.showable=true) (h2:d.shown.length≤sizeLine) (h3:d.canLay0=true) (h4:d.depth≤60) (q:Q (.str d.shown) H) :
  wpAny (model X.prog X.w) X.A (call (.builtin "repr") [u]) (EP X pins σ Q) X.xe s:=by
 obtain ⟨as,rd⟩:=Dp.reads I d x u h r
 have hd:d.hasDict=true→sysModules∉as:=fun z=>by rw [PySem.PyData.hasDict_of_canLay d h3] at z;cases z
 have hu:=g.u64
 have fin:∀ (h':Heap) (w':Tok) (tk:Nat),(∀ b o,s.heap.get? b=some o→h'.get? b=some o)→EP X pins σ Q (.str d.shown w') { s with heap:=h',toks:=tk }:=fun h' w' tk kp=>⟨.str d.shown,H,I.kept kp,⟨w',rfl⟩,q⟩
 cases d with
 | none=>cases rd;exact PySem.P.repr_of_none (by have:=fin s.heap s.toks (s.toks+1) fun _ _ e=>e;simpa only [PyData.shown] using this)
 | bool b=>cases rd;exact PySem.P.repr_of_bool (by have:=fin s.heap s.toks (s.toks+1) fun _ _ e=>e;simpa only [PyData.shown] using this)
 | int i=>cases rd;exact PySem.P.repr_of_int (by simpa [PyData.showable] using h1) (by have:=fin s.heap s.toks (s.toks+1) fun _ _ e=>e;simpa only [PyData.shown] using this)
 | str i=>cases rd;exact PySem.P.repr_of_str (by have:=fin s.heap s.toks (s.toks+1) fun _ _ e=>e;simpa only [PyData.shown] using this) (by simpa only [PyData.shown] using h2)
 | list xs=>
  obtain ⟨a,ea⟩:∃ a,u=.ref a:=by cases rd;exact ⟨_,rfl⟩
  subst ea
  exact PySem.repr_of_reads' rd h1 hd g.Mf (by omega) (fun _ _ e=>e) (fun h' w' tk kp=>fin h' w' tk kp) h2
 | tuple xs=>
  obtain ⟨a,ea⟩:∃ a,u=.ref a:=by cases rd;exact ⟨_,rfl⟩
  subst ea
  exact PySem.repr_of_reads' rd h1 hd g.Mf (by omega) (fun _ _ e=>e) (fun h' w' tk kp=>fin h' w' tk kp) h2
 | dict xs=>simp [PySem.PyData.canLay0] at h3
theorem W6:∀ {ns:List Int} {m:Int},Qs ns=some m→m∈ns∧∀ y∈ns,y≤m
 | [],m,e=>by cases e
 | x::xs,m,e=>by
  simp only [Qs] at e
  cases h:Qs xs with
  | none=>
   rw [h] at e
   cases e
   have:xs=[]:=by
    cases xs with
    | nil=>rfl
    | cons y ys=>
     simp only [Qs] at h
     split at h<;>cases h
   subst this
   exact ⟨List.mem_cons_self,fun y hy=>by rw [List.mem_singleton.mp hy];exact Int.le_refl _⟩
  | some k=>
   rw [h] at e
   obtain ⟨h1,h2⟩:=W6 h
   simp only [Option.some.injEq] at e
   split at e
   ·rename_i c
    subst e
    exact ⟨List.mem_cons_of_mem _ h1,fun y hy=>by
     rcases List.mem_cons.mp hy with rfl | hy
     ·exact c
     ·exact h2 y hy⟩
   ·rename_i c
    subst e
    exact ⟨List.mem_cons_self,fun y hy=>by
     rcases List.mem_cons.mp hy with rfl | hy
     ·exact Int.le_refl _
     ·have:=h2 y hy;omega⟩
theorem yZ [bT G X] (g:Good G k X) (f:B1):CallR X f.fv (rB1 G f):=by
 intro pins st σ H xs us Q I r h
 obtain ⟨ρ,S,a,z,x,rfl,s,ra,e,q⟩:=h
 cases f with
 | len=>
  simp only [gY] at e
  split at e
  ·simp only [VR] at ra;subst ra
   split at e
   ·rename_i hz
    cases e
    exact call_len_str pins st σ H _ us Q I r ⟨_,rfl,hz,q.now s (by simp only [VR])⟩
   ·cases e
  ·split at e
   ·rename_i ks xs ed
    cases e
    obtain ⟨p,kvs,rfl,h1,h2,h3⟩:=nR s ra ed
    obtain ⟨u,rfl,ru⟩:=vals1 r
    obtain rfl:u=Value.ref p:=ru
    refine d_len I h1 fun t s' I'=>⟨.int _,H,I',⟨t,rfl⟩,q.now s ?_⟩
    rw [← h2];simp only [VR,List.length_map]
   ·obtain ⟨ys,es,rfl⟩:=Option.map_eq_some_iff.mp e
    obtain ⟨p,vs,rfl,h1,h2⟩:=uw s ra es
    exact call_len_seq pins st σ H _ us Q I r ⟨p,vs,rfl,by rw [g.K];exact h1,q.now s (by simp only [VR,h2.length])⟩
 | all=>
  obtain ⟨bs,eb,rfl⟩:=Option.map_eq_some_iff.mp (show ((bV S a).bind allB).map _=some z from e)
  obtain ⟨ys,e1,e2⟩:=Option.bind_eq_some_iff.mp eb
  obtain ⟨p,vs,rfl,h1,h2⟩:=lQ s ra e1
  exact cr_all g.calm pins st σ H _ us Q I r ⟨p,bs,rfl,by rw [← h2.bls e2];exact .inl h1,q.now s (by simp only [VR])⟩
 | any=>
  obtain ⟨bs,eb,rfl⟩:=Option.map_eq_some_iff.mp (show ((bV S a).bind allB).map _=some z from e)
  obtain ⟨ys,e1,e2⟩:=Option.bind_eq_some_iff.mp eb
  obtain ⟨p,vs,rfl,h1,h2⟩:=lQ s ra e1
  exact cr_any g.calm pins st σ H _ us Q I r ⟨p,bs,rfl,by rw [← h2.bls e2];exact .inl h1,q.now s (by simp only [VR])⟩
 | sum=>
  obtain ⟨bs,eb,rfl⟩:=Option.map_eq_some_iff.mp (show ((bV S a).bind Cm).map _=some z from e)
  obtain ⟨ys,e1,e2⟩:=Option.bind_eq_some_iff.mp eb
  obtain ⟨p,vs,rfl,h1,h2⟩:=lQ s ra e1
  exact cr_sum g.calm pins st σ H _ us Q I r ⟨p,bs,rfl,by rw [← h2.ints e2];exact .inl h1,q.now s (by simp only [VR])⟩
 | max=>
  obtain ⟨bs,eb,ez⟩:=Option.bind_eq_some_iff.mp (show ((bV S a).bind Cm).bind _=some z from e)
  obtain ⟨m,em,rfl⟩:=Option.map_eq_some_iff.mp ez
  obtain ⟨ys,e1,e2⟩:=Option.bind_eq_some_iff.mp eb
  obtain ⟨p,vs,rfl,h1,h2⟩:=lQ s ra e1
  obtain ⟨m1,m2⟩:=W6 em
  exact cr_max g.calm pins st σ H _ us Q I r ⟨p,bs,rfl,by rw [← h2.ints e2];exact .inl h1,List.length_pos_of_mem m1,fun k k1 k2=>by
   have:k=m:=Int.le_antisymm (m2 k k1) (k2 m m1)
   subst this
   exact q.now s (by simp only [VR])⟩
 | tuple=>
  obtain ⟨ys,es,rfl⟩:=Option.map_eq_some_iff.mp (show (cV S a).map _=some z from e)
  obtain ⟨p,vs,rfl,h1,h2⟩:=uw s ra es
  rcases h1 with h1 | h1
  ·exact call_tuple_of pins st σ H _ us Q I r ⟨p,vs,rfl,.inl ⟨by rw [g.K];exact h1,fun l hl=>q.tup s h2 hl⟩⟩
  ·cases a with
   | tup zs=>
    simp only [cV,Option.some.injEq] at es;subst es
    exact call_tuple_of pins st σ H _ us Q I r ⟨p,vs,rfl,.inr ⟨by rw [g.K];exact h1,q.now s ra⟩⟩
   | lst zs=>
    simp only [VR] at ra
    obtain ⟨p',vs',e1,h3,h4⟩:=ra
    cases e1
    simp only [cV,Option.some.injEq] at es;subst es
    exact call_tuple_of pins st σ H _ us Q I r ⟨p,vs',rfl,.inl ⟨h3.sq,fun l hl=>q.tup s h4 hl⟩⟩
   | ref r'=>
    simp only [cV] at es
    split at es
    ·rename_i zs eo
     cases es
     obtain ⟨p',e1,_,vs',h3,h4⟩:=s.ref ra eo
     cases e1
     exact call_tuple_of pins st σ H _ us Q I r ⟨p,vs',rfl,.inl ⟨SqL.of h3,fun l hl=>q.tup s h4 hl⟩⟩
    ·cases es
   | _=>simp only [cV] at es;cases es
 | repr=>
  simp only [gY] at e
  split at e
  ·rename_i d ed
   split at e
   ·rename_i hz
    cases e
    obtain ⟨u,rfl,ru⟩:=vals1 r
    exact Su g I ru (by rw [g.K];exact tX s ra ed) hz.1 hz.2.1 hz.2.2.1 hz.2.2.2 (q.now s (by simp only [VR]))
   ·cases e
  ·cases e
 | str=>
  simp only [gY] at e
  split at e
  ·simp only [VR] at ra;subst ra
   split at e
   ·rename_i hz
    cases e
    exact call_str_int pins st σ H _ us Q I r ⟨_,rfl,hz,q.now s (by simp only [VR])⟩
   ·cases e
  ·simp only [VR] at ra;subst ra
   cases e
   exact SkE.call_str_str pins st σ H _ us Q I r ⟨_,rfl,q.now s (by simp only [VR])⟩
  ·cases e
 | int=>
  simp only [gY] at e
  split at e
  ·simp only [VR] at ra;subst ra
   cases e
   exact call_int1 pins st σ H _ us Q I r (.inr ⟨_,rfl,q.now s (by simp only [VR])⟩)
  ·simp only [VR] at ra;subst ra
   cases e
   exact call_int1 pins st σ H _ us Q I r (.inl ⟨_,rfl,q.now s (by simp only [VR])⟩)
  ·simp only [VR] at ra;subst ra
   split at e
   ·rename_i hz
    obtain ⟨m,em,rfl⟩:=Option.map_eq_some_iff.mp e
    exact call_int_str pins st σ H _ us Q I r ⟨_,m,rfl,em,hz,q.now s (by simp only [VR])⟩
   ·cases e
  ·cases e
end
end Oz
namespace Oz
open PySem L2 PyProof.Rows
structure qu (P:Program) (w:World) (K:PySem.W.Frag) (mg:Str→Option Value) (base:Heap) (k:Nat) (f:Addr) (fd:FuncData) (ps:List Str) (sp:Sp):Prop where
 len:∀ vs H Q E,sp vs H Q E→vs.length=ps.length
 run:∀ (A:Around) (outer:List Env) (s:Shared) (H:Hp) (args:Args) (us:List Value) (vs:List V) (Q:VK) (E:XK),Room k A→A.guards=some []→Env0 P w K mg base A outer s H→BindsTo s fd args (ps.zip us)→Vals vs us→sp vs H Q E→
  codeAny (model P w) A (.call (.ref f) args) (CR (L2.CX P w) outer P w H s Q E) s
theorem qu.mono {P:Program} {w:World} {K:PySem.W.Frag} {mg:Str→Option Value} {base:Heap} {j k:Nat} {f:Addr} {fd:FuncData} {ps:List Str} {sp:Sp} (F:qu P w K mg base j f fd ps sp) (h:j≤k):qu P w K mg base k f fd ps sp:=
 ⟨F.len,fun A outer s H args us vs Q E hr=>F.run A outer s H args us vs Q E (hr.mono h)⟩
def okR (G:bB) (H:Hp) (Q:VK):List Addr→Hp→Rv→Hs→Prop:=fun ρ' H' r S'=>match r with
 | .val x=>∀ v,VR G ρ' H' x v→Q v H'
 | .frs o=>∀ p,H p=none→p∉ρ'→OR G ρ' H' p o→bf G (ρ'++[p]) H' (S'++[o])→Q (.ref p) H'
def spI (G:bB) (M:aF) (n:Nat) (q:Str):Sp:=fun vs H Q E=>vs.length=n∧∃ ρ S xs,bf G ρ H S∧au G ρ H xs vs∧PR G (fun cls d _ H'=>E cls d H') [] ρ H (M.cal q xs S) (okR G H Q)
section
variable {G:bB} {k n:Nat} {X:Cx} {M:aF} {W:WX} {f C:Addr} {fd:FuncData} {ps:List Str} {sp:Sp} {dvs:List V} {ds:List Value} {q:Str}
theorem raised {pins:List (Addr × Obj)} {σ:L2.St} {H:Hp} {s s':Shared} {e:Value} (tk:Takes X W) (I:Inv X pins σ H s) (h:L2.CX X.prog X.w X.stack H s (fun c d H'=>W c d σ H') e s'):X.xe e s':=
 tk e s' (XE.of_call I (fun _ _ _ h=>h) h)
theorem abI {pins:List (Addr × Obj)} {σ:L2.St} {H:Hp} {s:Shared} {Q:VK} {us:List Value} {vs:List V} (F:qu X.prog X.w X.K X.mg X.base k f fd ps sp) (hr:Room k X.A) (hg:X.A.guards=some []) (hb:Binds X.K fd ps ds) (hd:Vals dvs ds) (tk:Takes X W)
  (I:Inv X pins σ H s) (r:Vals vs us) (h:sp (vs++dvs) H Q (fun c d H'=>W c d σ H')):wpAny (model X.prog X.w) X.A (call (.ref f) us) (EP X pins σ Q) X.xe s:=by
 have rr:=r.append hd
 have len:(us++ds).length=ps.length:=rr.length.symm.trans (F.len _ _ _ _ h)
 refine wpAny_call (codeAny_mono (F.run X.A X.stack s H ⟨us,[]⟩ (us++ds) (vs++dvs) Q _ hr hg I.env0 (hb s us I.kIn len) rr h) ?_)
 intro r' s' hq
 match r',hq with
 | .error e,hq=>exact raised tk I hq
 | .ok (.ret u),hq=>exact I.after hq
 | .ok .next,hq=>exact hq.elim
 | .ok .brk,hq=>exact hq.elim
 | .ok .cont,hq=>exact hq.elim
theorem Bs {A:Around} {us:List Value} {kw:List (Str × Value)} (h:A.guards=some []):(A.under (.builtin "type.__call__" ⟨.ref C::us,kw⟩)).guards=some []:=by
 have e:(Code.builtin "type.__call__" ⟨.ref C::us,kw⟩).guards=[]:=by
  unfold Code.guards
  rw [if_neg]
  intro z
  have z2:guardIds.contains "type.__call__"=true:=z
  exact absurd z2 (by decide+kernel)
 unfold Around.under
 simp only [e]
 rw [h];rfl
end
section
variable {G:bB} {k n:Nat} {X:Cx} {M:aF} {W:WX} {f C:Addr} {fd:FuncData} {ps:List Str} {ds:List Value} {q x m:Str} {a e:Expr} {es:List Expr} {ca:E} {cU:Es} {p pos cH:Pos}
def Es.app:Es→List Vl→Es
 | .nil,[]=>.nil
 | .nil,v::vs=>.cons (.cst v) (Es.app .nil vs)
 | .cons e es,vs=>.cons e (Es.app es vs)
theorem qH:∀ (es:Es) (vs:List Vl) (η:Sg) (S:Hs),evs M (es.app vs) η S=(evs M es η S).bind fun xs S1=>.ok (xs++vs) S1
 | .nil,[],_,_=>by simp only [Es.app,evs,Res.bind,List.append_nil]
 | .nil,v::vs,η,S=>by
  have h:=qH .nil vs η S
  simp only [Es.app,evs,ev,Res.bind] at h ⊢
  rw [h];rfl
 | .cons e es,vs,η,S=>by
  simp only [Es.app,evs]
  cases ev M e η S with
  | ok x S1=>
   simp only [Res.bind]
   rw [qH es vs η S1]
   cases evs M es η S1<;>rfl
  | exc x S1=>rfl
  | bad=>rfl
def Az (G:bB) (xs:List Vl) (dvs:List V):Prop:=∀ ρ H,au G ρ H xs dvs
theorem PR.vJ {α:Type} {W:WX} {σ:L2.St} {ρ:List Addr} {H:Hp} {r:Res α} {ok:List Addr→Hp→α→Hs→Prop} (h:PR G W σ ρ H r ok):PR G (fun cls d _ H'=>W cls d σ H') [] ρ H r ok:=by
 cases r with
 | ok a S=>exact h
 | exc x S=>
  intro ρ' H' st s
  have:=h ρ' H' st s
  unfold XW at this ⊢
  exact this
 | bad=>exact h
theorem PR.acd {σ:L2.St} {ρ0 ρ:List Addr} {H0 H:Hp} {S0 S:Hs} {Q:VK} {xs:List Vl} (s0:bf G ρ0 H0 S0) (st:Step ρ0 H0 ρ H) (s:bf G ρ H S) (h:PR G W σ ρ H (pX M q xs S) (okV G Q)):PR G W σ ρ H (M.cal q xs S) (okR G H Q):=by
 have h':PR G W σ ρ H ((M.cal q xs S).bind fun r S1=>.ok r.v S1) (okV G Q):=h
 cases e:M.cal q xs S with
 | ok r S1=>
  rw [e] at h'
  intro ρ' H' gG s'
  cases r with
  | val x=>exact h' ρ' H' gG s'
  | frs o=>exact fun p _ n ho _=>h' ρ' H' gG s' _ (ho.inl n)
 | exc x S1=>rw [e] at h';exact h'
 | bad=>rw [e] at h';exact h'
theorem PR.ajP {σ:L2.St} {ρ0 ρ:List Addr} {H0 H:Hp} {S0 S:Hs} {Q:VK} {xs:List Vl} (s0:bf G ρ0 H0 S0) (st:Step ρ0 H0 ρ H) (s:bf G ρ H S) (h:PR G W σ ρ H ((M.cal q xs S).bind fun r S2=>match r with | .frs o=>.ok o S2 | .val _=>.bad) (Cd G H0 Q)):PR G W σ ρ H (M.cal q xs S) (okR G H Q):=by
 cases e:M.cal q xs S with
 | ok r S1=>
  rw [e] at h
  cases r with
  | val x=>exact h.elim
  | frs o=>exact fun ρ' H' gG s' p hp n ho sx=>h ρ' H' gG s' p (none_of s0 s st hp) n ho sx
 | exc x S1=>rw [e] at h;exact h
 | bad=>rw [e] at h;exact h
def tCl (X:Cx) (k n:Nat) (G:bB) (M:aF) (q:Str) (W:WX) (cU:Es) (dxs:List Vl):TE:=fun σ H Q=>∃ ρ η S,bf G ρ H S∧ER G ρ H η σ∧PR G W σ ρ H (evs M cU η S) fun ρ1 H1 xs S1=>xs.length+dxs.length=n∧PR G W σ ρ1 H1 (M.cal q (xs++dxs) S1) (okR G H1 Q)
theorem Qo [bT G X] (g:Good G (k+1) X) (F:qu X.prog X.w X.K X.mg X.base k f fd ps (spI G M n q)) (hg:Gl X x) (hm:X.mg x=some (.ref f)) (hk:PySem.W.keepIn X.K (.ref f)=true) {dxs:List Vl} {dvs:List V} (hb:Binds X.K fd ps ds) (hd:Vals dvs ds) (hc:Az G dxs dvs) (tk:Takes X W)
  (ha:PA X (e::es) (tA G M W cU)) (sX:(x==("__debug__":Str))=false:=by decide) (he:starEach (e::es) X.env=(false,eval e X.env)::starEach es X.env:=by rfl) (jt:(backTo pos (starEach es X.env)).any (·.1)=false:=by rfl) :
  PE X (.Call (.Name x p) (e::es) [] pos) (tCl X k n G M q W cU dxs):=by
 refine ⟨fun pins s σ H Q I ⟨ρ,η,S,s0,r,h⟩=> ?_⟩
 have hr:Room k X.A:=g.rm.mono (Nat.le_succ _)
 refine wpAny_Call_Name_kw (ld_glob I hg hm ?_ sX)
 refine PySem.W.callWith_K (h₀:=X.base) I.ok.mod.kin hk (thn (ha.run pos pins s σ H (fun vs H1=>∃ xs ρ1 S1,Step ρ H ρ1 H1∧bf G ρ1 H1 S1∧au G ρ1 H1 xs vs∧xs.length+dxs.length=n∧PR G W σ ρ1 H1 (M.cal q (xs++dxs) S1) (okR G H1 Q)) I ⟨ρ,η,S,s0,r,h.mono fun ρ1 H1 xs S1 bU s1 hl vs hv=>⟨xs,ρ1,S1,bU,s1,hv,hl⟩⟩) fun us s1 ⟨vs,H1,I1,rv,xs,ρ1,S1,bU,sm1,hv,hl,hp⟩=>⟨I1.kIn,?_⟩) he jt
 refine abI F hr g.Mf hb hd tk I1 rv ⟨?_,ρ1,S1,xs++dxs,sm1,hv.append (hc _ _),PR.vJ hp⟩
 rw [List.length_append,← hv.length,← (hc ρ1 H1).length];exact hl
theorem CN {σ:L2.St} {H:Hp} {Q:VK} {dxs:List Vl} (hn:∀ η S xs S1,evs M cU η S=.ok xs S1→xs.length+dxs.length=n) (h:tE G M W (.call q (cU.app dxs)) σ H Q):tCl X k n G M q W cU dxs σ H Q:=by
 obtain ⟨ρ,η,S,s0,r,h⟩:=h
 refine ⟨ρ,η,S,s0,r,?_⟩
 simp only [ev,qH] at h
 cases e:evs M cU η S with
 | ok xs S1=>
  rw [e] at h
  exact fun ρ1 H1 st s=>⟨hn _ _ _ _ e,PR.acd s0 st s (PR.step h st)⟩
 | exc x S1=>rw [e] at h;exact h
 | bad=>rw [e] at h;exact h
theorem aec {σ:L2.St} {H:Hp} {Q:VK} {dxs:List Vl} (hn:∀ η S xs S1,evs M cU η S=.ok xs S1→xs.length+dxs.length=n) (h:tF G M W (.call q (cU.app dxs)) σ H Q):tCl X k n G M q W cU dxs σ H Q:=by
 obtain ⟨ρ,η,S,s0,r,h⟩:=h
 refine ⟨ρ,η,S,s0,r,?_⟩
 simp only [d9,qH] at h
 cases e:evs M cU η S with
 | ok xs S1=>
  rw [e] at h
  refine fun ρ1 H1 st s=>⟨hn _ _ _ _ e,?_⟩
  have h2:=PR.step h st
  simp only [Res.bind] at h2
  exact PR.ajP s0 st s h2
 | exc x S1=>rw [e] at h;exact h
 | bad=>rw [e] at h;exact h
def Es.len:Es→Nat
 | .nil=>0
 | .cons _ es=>es.len+1
theorem mO:∀ (es:Es) (η:Sg) (S:Hs) (xs:List Vl) (S1:Hs),evs M es η S=.ok xs S1→xs.length=es.len
 | .nil,η,S,xs,S1,h=>by
  simp only [evs] at h
  cases h;rfl
 | .cons e es,η,S,xs,S1,h=>by
  simp only [evs] at h
  cases e1:ev M e η S with
  | ok x S2=>
   rw [e1] at h;simp only [Res.bind] at h
   cases e2:evs M es η S2 with
   | ok ys S3=>
    rw [e2] at h;cases h
    simp only [List.length_cons,Es.len,mO es η S2 ys _ e2]
   | exc x S3=>rw [e2] at h;cases h
   | bad=>rw [e2] at h;cases h
  | exc x S2=>rw [e1] at h;cases h
  | bad=>rw [e1] at h;cases h
end
end Oz
namespace Oz
open PySem L2 PyProof.Rows
inductive Kq where
 | lst (a:Addr) | tup (a:Addr) | txt (z:Str)
def Kq.v:Kq→V
 | .lst a=>.ref a
 | .tup a=>.ref a
 | .txt z=>.str z
def Kq.cur (K:PySem.W.Frag) (H:Hp):Kq→List V→Prop
 | .lst a,vs=>SqL K H a vs
 | .tup a,vs=>SqT K H a vs
 | .txt z,vs=>vs=z.cps.toList.map fun c=>V.str ⟨#[c]⟩
def Kq.at_ (h:Heap) (it:Addr) (i:Nat):Kq→Prop
 | .lst a=>h.IsListIter it a i
 | .tup a=>h.IsTupleIter it a i
 | .txt z=>∃ t,h.IsStrIter it (strIterType z) z t i
def Kq.lt (n:Nat):Kq→Prop
 | .lst a=>a<n
 | .tup a=>a<n
 | .txt _=>True
theorem Kq.keep {h h':Heap} {it:Addr} {i:Nat}:∀ {q:Kq},q.at_ h it i→(∀ o,h.get? it=some o→h'.get? it=some o)→q.at_ h' it i
 | .lst a,st,k=>Heap.IsListIter.at st k
 | .tup a,st,k=>Heap.IsTupleIter.at st k
 | .txt z,⟨t,o,e,r⟩,k=>⟨t,o,k o e,r⟩
theorem Kq.live {h:Heap} {it:Addr} {i:Nat}:∀ {q:Kq},q.at_ h it i→∃ o,h.get? it=some o∧∀ v,o.data≠.cell v
 | .lst a,⟨o,e,c,d⟩=>⟨o,e,fun v z=>by rw [d] at z;cases z⟩
 | .tup a,⟨o,e,c,d⟩=>⟨o,e,fun v z=>by rw [d] at z;cases z⟩
 | .txt z,⟨t,o,e,c,d⟩=>⟨o,e,fun v z=>by rw [d] at z;cases z⟩
section
variable {X:Cx} {pins:List (Addr × Obj)} {σ:L2.St} {H:Hp} {s:Shared}
theorem Kq.inj (I:Inv X pins σ H s):∀ {q:Kq} {vs ws:List V},q.cur X.K H vs→q.cur X.K H ws→vs=ws
 | .lst a,_,_,h1,h2=>I.list_inj h1 h2
 | .tup a,_,_,h1,h2=>I.tuple_inj h1 h2
 | .txt z,_,_,h1,h2=>h1.trans h2.symm
theorem Kq.draws (I:Inv X pins σ H s) (hc:X.A.handled=none) {it:Addr} {i n:Nat} {vs:List V}:∀ {q:Kq},q.cur X.K H vs→q.at_ s.heap it i→q.lt n→n≤it→
  ∃ (fp:List Addr) (P:Nat→Value→Prop) (St:Nat→Heap→Prop),Draws X.prog X.w X.A.in1 it fp vs.length P St∧it∈fp∧St i s.heap∧(∀ b∈fp,b=it∨b<n)∧(∀ j x,P j x→∃ v,vs[j]? =some v∧RelV v x)∧(∀ j h,St j h→q.at_ h it j)
 | .lst a,c,st,l,hn=>by
  obtain ⟨its,rv,p,hz⟩:=I.list c
  have ne:a≠it:=Nat.ne_of_lt (Nat.lt_of_lt_of_le l hn)
  have D:=Draws.list (prog:=X.prog) (w:=X.w) (A:=X.A.in1) (show X.A.in1.handled=none from hc) it a ne its.toArray
  have e:its.toArray.size=vs.length:=by rw [List.size_toArray,rv.length]
  rw [e] at D
  refine ⟨_,_,_,D,by simp,⟨st,p.isList⟩,fun b hb=> ?_,fun j x hx=> ?_,fun j h q=>q.1⟩
  ·rcases List.mem_cons.mp hb with z | z
   ·exact .inl z
   ·rw [List.mem_singleton.mp z];exact .inr l
  ·have Iz:its[j]? =some x:=by simpa using hx
   have hj:j<vs.length:=by rw [rv.length];exact (List.getElem?_eq_some_iff.mp Iz).1
   obtain ⟨u,hu,ru⟩:=rv.get (List.getElem?_eq_getElem hj)
   rw [Iz] at hu;cases hu
   exact ⟨_,List.getElem?_eq_getElem hj,ru⟩
 | .tup a,c,st,l,hn=>by
  obtain ⟨its,rv,p,hz⟩:=I.tuple c
  have ne:a≠it:=Nat.ne_of_lt (Nat.lt_of_lt_of_le l hn)
  have D:=Draws.tuple (prog:=X.prog) (w:=X.w) (A:=X.A.in1) (show X.A.in1.handled=none from hc) it a ne its.toArray
  have e:its.toArray.size=vs.length:=by rw [List.size_toArray,rv.length]
  rw [e] at D
  refine ⟨_,_,_,D,by simp,⟨st,p⟩,fun b hb=> ?_,fun j x hx=> ?_,fun j h q=>q.1⟩
  ·rcases List.mem_cons.mp hb with z | z
   ·exact .inl z
   ·rw [List.mem_singleton.mp z];exact .inr l
  ·have Iz:its[j]? =some x:=by simpa using hx
   have hj:j<vs.length:=by rw [rv.length];exact (List.getElem?_eq_some_iff.mp Iz).1
   obtain ⟨u,hu,ru⟩:=rv.get (List.getElem?_eq_getElem hj)
   rw [Iz] at hu;cases hu
   exact ⟨_,List.getElem?_eq_getElem hj,ru⟩
 | .txt z,c,⟨t,st⟩,l,hn=>by
  have D:=Draws.text (prog:=X.prog) (w:=X.w) (A:=X.A.in1) (show X.A.in1.handled=none from hc) it z t
  have e:z.cps.size=vs.length:=by rw [show vs=_ from c,List.length_map,Array.length_toList]
  rw [e] at D
  refine ⟨_,_,_,D,by simp,st,fun b hb=>.inl (List.mem_singleton.mp hb),fun j x hx=> ?_,fun j h q=>⟨t,q⟩⟩
  obtain ⟨c',u,h1,rfl⟩:=hx
  refine ⟨.str ⟨#[c']⟩,?_,⟨u,rfl⟩⟩
  rw [show vs=_ from c,List.getElem?_map,Array.getElem?_toList,h1];rfl
theorem Kq.begins (I:Inv X pins σ H s) {vs:List V} {u:Value}:∀ {q:Kq},q.cur X.K H vs→RelV q.v u→∃ (o:Obj) (Hk:Heap→Prop),Begins u o Hk∧Hk s.heap∧q.lt s.heap.objs.size∧∀ (h':Heap) (it:Addr),h'.get? it=some o→q.at_ h' it 0
 | .lst a,c,r=>by
  obtain ⟨its,rv,p,hz⟩:=I.list c
  obtain rfl:u=Value.ref a:=r
  exact ⟨_,_,begins_list a its.toArray,p.isList,p.lt,fun h' it e=>⟨_,e,rfl,rfl⟩⟩
 | .tup a,c,r=>by
  obtain ⟨its,rv,p,hz⟩:=I.tuple c
  obtain rfl:u=Value.ref a:=r
  obtain ⟨o,ho,_⟩:=id p
  exact ⟨_,_,begins_tuple a its.toArray,p,Heap.lt_size ho,fun h' it e=>⟨_,e,rfl,rfl⟩⟩
 | .txt z,c,r=>by
  obtain ⟨t,rfl⟩:=r
  exact ⟨_,_,begins_text z t,trivial,trivial,fun h' it e=>⟨t,_,e,rfl,rfl⟩⟩
end
theorem two {n c:Nat} (h:c∈[n+1,n]):n≤c∧c≤n+1:=by
 simp at h;omega
def aju (K:PySem.W.Frag) (q r:Kq):It:=
 ⟨fun i H=>∃ (vs ws:List V),q.cur K H vs∧r.cur K H ws∧i<vs.length∧i<ws.length,
  fun i H v H'=>∃ T x y,v=.ref T∧H T=none∧H'=upd H T (.tup [x,y])∧(∀ vs,q.cur K H vs→vs[i]? =some x)∧∀ ws,r.cur K H ws→ws[i]? =some y,
  fun i H=>∃ (vs ws:List V),q.cur K H vs∧r.cur K H ws∧i≤vs.length∧i≤ws.length∧(i=vs.length∨i=ws.length)⟩
def am2 (K:PySem.W.Frag) (ta:TA):TI:=fun σ H R=>ta σ H fun xs H1=>∃ q r vs ws,xs=[Kq.v q,Kq.v r]∧q.cur K H1 vs∧r.cur K H1 ws∧R (aju K q r) H1
def aaO (K:PySem.W.Frag) (k0:Int) (q:Kq):It:=
 ⟨fun i H=>∃ (vs:List V),q.cur K H vs∧i<vs.length,
  fun i H v H'=>∃ T x,v=.ref T∧H T=none∧H'=upd H T (.tup [.int (k0+(i:Nat)),x])∧∀ vs,q.cur K H vs→vs[i]? =some x,
  fun i H=>∃ (vs:List V),q.cur K H vs∧i=vs.length⟩
theorem Sd {P:Program} {w:World} {K:PySem.W.Frag} {uD:List Expr} {kk:Nat} {tM:Pos} {k0:Int} {q:Kq} {n:Nat} (lq:q.lt n) :
  Turn P w K (.Tuple uD kk tM) (aaO K k0 q) [n+1,n] (n+1) (fun i h=>(∃ old,IsEnum h (n+1) n (k0+(i:Nat)) old)∧q.at_ h n i) where
 mem:=by simp
 obj:=fun i h st b hb=>by
  obtain ⟨⟨old,he⟩,h1⟩:=st
  have e':b=n+1∨b=n:=by simpa using hb
  rcases e' with z | z
  ·rw [z];exact ⟨_,he,fun v q=>nomatch q⟩
  ·rw [z];exact Kq.live h1
 keep:=fun i h h' st k=>let ⟨⟨old,he⟩,hi⟩:=st;⟨⟨old,k (n+1) (by simp) _ he⟩,Kq.keep hi fun o q=>k n (by simp) o q⟩
 item:=by
  intro X hP hw hK hc i pins s σ H E I hf st hg
  subst hP hw hK
  obtain ⟨⟨old,he⟩,h1⟩:=st
  obtain ⟨vs,c1,i1⟩:=hg
  obtain ⟨f1,P1,S1,D1,m1,s1,b1,p1,a1⟩:=Kq.draws I (I.ok.hd hc) c1 h1 lq (Nat.le_refl _)
  have hel:n+1<s.heap.objs.size:=Heap.lt_size he
  have hef:n+1∉f1:=fun h=>(b1 _ h).elim (fun e=>Nat.succ_ne_self n e) fun l=>absurd l (by show ¬ n+1<n;omega)
  refine wpAny_pyNext_enum_itemC D1 he s1 i1 (Nat.succ_ne_self n) hef fun x1 h' tk px ho gG hT hsz hk=> ?_
  obtain ⟨x,ex,rx⟩:=p1 i x1 px
  refine ⟨_,rfl,wpAny_letOwnedTupleGo_enum (s:={ s with heap:=h',toks:=tk+1 }) ho fun h'' he' sb=> ?_⟩
  have hT2:h''.get? s.heap.objs.size=some { cls:=.type "tuple",data:=.seq #[.int (k0+(i:Nat)) tk,x1] }:=(sb.2 _ (Nat.ne_of_gt hel)).trans hT
  have new:ObjOk X.prog X.w (upd H s.heap.objs.size (.tup [.int (k0+(i:Nat)),x])) h'' s.heap.objs.size (.tup [.int (k0+(i:Nat)),x]):=
   ⟨by show 2≤sizeLine;decide,[.int (k0+(i:Nat)) tk,x1],.cons ⟨_,rfl⟩ (.cons rx .nil),⟨_,hT2,rfl,_,rfl⟩⟩
  have I1:Inv X pins σ (upd H s.heap.objs.size (.tup [.int (k0+(i:Nat)),x])) { s with heap:=h'',toks:=tk+1 }:=
   I.turnedNew (ch:=[n+1,n]) (fun b ob hb q=>(sb.2 b (fun z=>hb (by simp [z]))).trans (hk b ob (fun z=>hb (by simp [z])) (fun z=>hb (by simp [z])) q)) hf (Nat.le_refl _) new
  refine ⟨.ref s.heap.objs.size,_,I1,rfl,⟨_,x,rfl,I.hok.fresh (Nat.le_refl _),rfl,fun ys hy=>by rw [Kq.inj I hy c1];exact ex⟩,⟨⟨x1,?_⟩,Kq.keep (a1 _ _ gG) fun o q=>(sb.2 n (show n≠n+1 by omega)).trans q⟩,fun b hb=> ?_⟩
  ·have e1:k0+((i+1:Nat):Int)=k0+(i:Nat)+1:=by omega
   rw [e1];exact he'
  ·have hb':b<s.heap.objs.size:=Nat.lt_of_le_of_lt (two hb).2 hel
   rw [upd_ne (Nat.ne_of_lt hb')]
   exact (hf b hb).1
 done:=by
  intro X hP hw hK hc i pins s σ H E I hf st hg
  subst hP hw hK
  obtain ⟨⟨old,he⟩,h1⟩:=st
  obtain ⟨vs,c1,i1⟩:=hg
  obtain ⟨f1,P1,S1,D1,m1,s1,b1,p1,a1⟩:=Kq.draws I (I.ok.hd hc) c1 h1 lq (Nat.le_refl _)
  have D2:Draws X.prog X.w X.A.in1 n f1 i P1 S1:=by rw [i1];exact D1
  exact wpAny_pyNext_enum_endD D2 he s1 fun h' hx=>⟨rfl,I.turnedL (t':=s.toks) (ch:=[n+1,n]) (fun b o hb q=>hx b o (fun z=>hb (by simp [z])) q) hf⟩
 self:=fun A i s Q E st h=>let ⟨⟨_,he⟩,_⟩:=st;wpAny_pyIter_enum he h
def afQ (K:PySem.W.Frag) (k0:Int) (ta:TA):TI:=fun σ H R=>ta σ H fun xs H1=>∃ q vs,xs=[Kq.v q]∧q.cur K H1 vs∧R (aaO K k0 q) H1
theorem JP {X:Cx} {pins:List (Addr × Obj)} {σ:L2.St} {H1:Hp} {s1:Shared} {q:Kq} {vs:List V} {k0:Int} {tM:Pos} {uD:List Expr} {kk:Nat} {R:It→Hp→Prop} {h':Heap} {o:Obj} {E:Value→Shared→Prop} (I1:Inv X pins σ H1 s1) (c1:q.cur X.K H1 vs) (l1:q.lt s1.heap.objs.size) (a1:∀ (h':Heap) (it:Addr),h'.get? it=some o→q.at_ h' it 0)
  (he:IsEnum h' (s1.heap.objs.size+1) s1.heap.objs.size k0 .none) (g1:h'.get? s1.heap.objs.size=some o) (hk:∀ b o,s1.heap.get? b=some o→h'.get? b=some o) (hR:R (aaO X.K k0 q) H1) :
  wpAny (model X.prog X.w) X.A (pyIter (.ref (s1.heap.objs.size+1))) (PIE X pins σ (.Tuple uD kk tM) R) E { s1 with heap:=h' }:=by
 refine wpAny_pyIter_enum he ?_
 have I2:Inv X pins σ H1 { s1 with heap:=h' }:=I1.kept (t':=s1.toks) hk
 refine ⟨_,[s1.heap.objs.size+1,s1.heap.objs.size],_,_,H1,rfl,I2,Sd (k0:=k0) l1,⟨⟨.none,?_⟩,a1 _ _ g1⟩,fun c hcm=> ?_,hR⟩
 ·have e1:k0+((0:Nat):Int)=k0:=by omega
  rw [e1];exact he
 ·have hle:s1.heap.objs.size≤c:=(two hcm).1
  exact I1.fpOk hle (I1.hok.fresh hle)
end Oz
namespace Oz
open PySem L2 PyProof.Rows
theorem N8 {P:Program} {w:World} {K:PySem.W.Frag} {tg:Expr} {J J':It} {fp:List Addr} {it:Addr} {tn:Nat→Heap→Prop} (T:Turn P w K tg J fp it tn)
  (hg:∀ i H,J'.go i H→J.go i H) (hy:∀ i H x H',J'.go i H→J.yld i H x H'→J'.yld i H x H') (hs:∀ i H,J'.stop i H→J.stop i H):Turn P w K tg J' fp it tn where
 mem:=T.mem
 obj:=T.obj
 keep:=T.keep
 item:=fun X hP hw hK hc i pins s σ H E I hf st hgo=>wpAny_mono (T.item X hP hw hK hc i pins s σ H E I hf st (hg i H hgo)) (fun r s1 ⟨u,hr,h4⟩=>⟨u,hr,wpAny_mono h4 (fun _ s2 ⟨x,H',I',r',y,rest⟩=>⟨x,H',I',r',hy i H x H' hgo y,rest⟩) fun _ _ z=>z⟩) fun _ _ z=>z
 done:=fun X hP hw hK hc i pins s σ H E I hf st Rq=>T.done X hP hw hK hc i pins s σ H E I hf st (hs i H Rq)
 self:=T.self
def Itq (K:PySem.W.Frag) (q:Kq):It:=
 ⟨fun i H=>∃ vs:List V,q.cur K H vs∧i<vs.length,fun i H x H'=>H'=H∧∀ vs,q.cur K H vs→vs[i]? =some x,fun i H=>∃ vs:List V,q.cur K H vs∧i=vs.length⟩
def alR (K:PySem.W.Frag) (te:TE):TI:=fun σ H R=>te σ H fun x H1=>∃ q:Kq,x=q.v∧(∃ vs,q.cur K H1 vs)∧R (Itq K q) H1
theorem abJ {X:Cx} {tg e:Expr} {te:TE} (he:PE X e te):PI X tg e (alR X.K te):=by
 refine ⟨fun pins s σ H R I h=> ?_⟩
 refine thn (he.run pins s σ H _ I h) fun v s1 ⟨x,H1,I1,r1,q1⟩=> ?_
 obtain ⟨q,e,⟨xs,hq⟩,hR⟩:=q1
 subst e
 cases q with
 | lst a=>
  cases r1
  obtain ⟨its,rv,p,hz⟩:=I1.list hq
  refine wpAny_pyIter_list p.isList ?_
  refine ⟨s1.heap.objs.size,[s1.heap.objs.size],_,_,H1,rfl,I1.kept (t':=s1.toks) fun b o e=>Heap.get?_push_of_some _ e,N8 (J':=Itq X.K (.lst a)) (turn_list a s1.heap.objs.size) (fun i H ⟨vs,c,l⟩=>⟨vs,vs[i],c,by simp [l]⟩) (fun i H x H' _ y=>y) (fun i H ⟨vs,c,l⟩=>⟨vs,c,by omega⟩),⟨_,Heap.get?_push_size _ rfl,rfl,rfl⟩,fun b hb=> ?_,hR⟩
  have e:b=s1.heap.objs.size:=by simpa using hb
  subst e
  exact I1.fpOk (Nat.le_refl _) (I1.hok.fresh (Nat.le_refl _))
 | tup a=>
  cases r1
  obtain ⟨its,rv,p,hz⟩:=I1.tuple hq
  refine wpAny_pyIter_tuple (show s1.heap.IsTuple a its.toArray from p) ?_
  refine ⟨s1.heap.objs.size,[s1.heap.objs.size],_,_,H1,rfl,I1.kept (t':=s1.toks) fun b o e=>Heap.get?_push_of_some _ e,N8 (J':=Itq X.K (.tup a)) (turn_tuple a s1.heap.objs.size) (fun i H ⟨vs,c,l⟩=>⟨vs,vs[i],c,by simp [l]⟩) (fun i H x H' _ y=>y) (fun i H ⟨vs,c,l⟩=>⟨vs,c,by omega⟩),⟨_,Heap.get?_push_size _ rfl,rfl,rfl⟩,fun b hb=> ?_,hR⟩
  have e:b=s1.heap.objs.size:=by simpa using hb
  subst e
  exact I1.fpOk (Nat.le_refl _) (I1.hok.fresh (Nat.le_refl _))
 | txt z=>
  obtain ⟨t,rfl⟩:=r1
  have key:∀ (it:Addr) (ty:String) (hty:ty="str_ascii_iterator"∨ty="str_iterator"),Turn X.prog X.w X.K tg (Itq X.K (.txt z)) [it] it (fun i h=>h.IsStrIter it ty z t i):=fun it ty hty=>
   N8 (J':=Itq X.K (.txt z)) (turn_str it z t ty hty) (fun i H ⟨vs,c,l⟩=>by
    have c':vs=z.cps.toList.map fun c=>V.str ⟨#[c]⟩:=c
    subst c'
    show i<z.cps.size
    simpa using l) (fun i H x H' _ ⟨e,c,hc,hx⟩=>⟨e,fun vs c'=>by
     have c':vs=z.cps.toList.map fun c=>V.str ⟨#[c]⟩:=c'
     subst c'
     rw [List.getElem?_map,Array.getElem?_toList,hc,hx];rfl⟩) (fun i H ⟨vs,c,l⟩=>by
    have c':vs=z.cps.toList.map fun c=>V.str ⟨#[c]⟩:=c
    subst c'
    show z.cps.size≤i
    simp at l;omega)
  cases ha:z.cps.all (·<128)
  ·exact wpAny_pyIter_wide ha (pi_one (tk:=s1.toks) I1 _ (key _ "str_iterator" (.inr rfl)) ⟨_,Heap.get?_push_size _ rfl,rfl,rfl⟩ hR)
  ·exact wpAny_pyIter_ascii ha (pi_one (tk:=s1.toks) I1 _ (key _ "str_ascii_iterator" (.inl rfl)) ⟨_,Heap.get?_push_size _ rfl,rfl,rfl⟩ hR)
set_option maxHeartbeats 1000000 in
theorem aa5 {v:Value} {o:Obj} {Hk:Heap→Prop} (B:Begins v o Hk) :
  Meets (Builtin.«enumerate.__new__» ⟨[.type "enumerate",v],[]⟩) (fun _ R s=>Hk s.heap∧
   R (.ok (.ret (.ref (s.heap.push o).objs.size))) { s with heap:=(s.heap.push o).push { cls:=.type "enumerate",data:=.fields #[.none,.bool false,.ref s.heap.objs.size,rawInt 0,.none,.none] } }):=
 .of_wp fun prog w A R s hh=>by
  obtain ⟨hp,g,d,tk,os⟩:=s
  obtain ⟨h1,hR⟩:=hh
  have am5:=sub_enumerate
  have go:∀ {A':Around} {E':Value→Shared→Prop} {Q':Value→Shared→Prop},Q' (.ref hp.objs.size) ⟨hp.push o,g,d,tk,os⟩→wpAny (model prog w) A' (pyIter v) Q' E' ⟨hp,g,d,tk,os⟩:=fun q=>B.iter prog w _ _ ⟨hp,g,d,tk,os⟩ _ h1 q
  wp_walk using go
  refine wpAny_stack_any fun _=>wpAny_pure ?_
  split
  ·rename_i c _ _ _ _ _
   cases (c==Value.type "enumerate")<;>(wp_walk using go;exact ⟨_,rfl,hR⟩)
  ·wp_walk using go;exact ⟨_,rfl,hR⟩
theorem acv {prog:Program} {w:World} {A:Around} {E:Value→Shared→Prop} {s:Shared} {v:Value} {o:Obj} {Hk:Heap→Prop} {Q:Value→Shared→Prop} (B:Begins v o Hk) (h1:Hk s.heap)
  (h:∀ h',IsEnum h' (s.heap.objs.size+1) s.heap.objs.size 0 .none→h'.get? s.heap.objs.size=some o→(∀ b o,s.heap.get? b=some o→h'.get? b=some o)→Q (.ref (s.heap.objs.size+1)) { s with heap:=h' }) :
  wpAny (model prog w) A (call (.type "enumerate") [v]) Q E s:=by
 refine callType_new F.called_enumerate (by decide) (F.typeCall_enumerate_1 _) (F.newCall_enumerate_1 _) (fun obj=>F.args_object_init_2 obj _) F.entry_enumerate_new (aa5 B) ⟨h1,?_⟩
 have hz:(s.heap.push o).objs.size=s.heap.objs.size+1:=Heap.size_push ..
 show _∧_
 rw [hz]
 have he:IsEnum ((s.heap.push o).push ⟨.type "enumerate",none,.fields #[.none,.bool false,.ref s.heap.objs.size,rawInt 0,.none,.none], #[]⟩) (s.heap.objs.size+1) s.heap.objs.size 0 .none:=by
  have q:=Heap.get?_push_size (s.heap.push o) (o:=⟨.type "enumerate",none,.fields #[.none,.bool false,.ref s.heap.objs.size,rawInt 0,.none,.none], #[]⟩) rfl
  rwa [hz] at q
 exact ⟨⟨_,he,rfl⟩,h _ he (Heap.get?_push_of_some _ (Heap.get?_push_size _ B.free)) fun b o x=>Heap.get?_push_of_some _ (Heap.get?_push_of_some _ x)⟩
theorem abv {X:Cx} {e:Expr} {ta:TA} {p pos tM:Pos} {uD:List Expr} {kk:Nat} (hg:Gl X "enumerate") (hm:X.mg "enumerate"=none) (ha:PA X [e] ta) (hs:starEach [e] X.env=[(false,eval e X.env)]:=by rfl) :
  PI X (.Tuple uD kk tM) (.Call (.Name "enumerate" p) [e] [] pos) (afQ X.K 0 ta):=by
 refine ⟨fun pins s σ H R I h=> ?_⟩
 refine Call_ (ld_blt I hg hm boot_enumerate (PyProof.Rows.callWith_type1 (thn (ha.run pos pins s σ H _ I h) fun us s1 ⟨xs,H1,I1,r1,q1⟩=> ?_) hs rfl))
 obtain ⟨q,vs,ex,c1,hR⟩:=q1
 subst ex
 cases r1 with
 | cons ru rr=>
  cases rr
  obtain ⟨o1,K1,B1,k1,l1,a1⟩:=Kq.begins I1 c1 ru
  exact acv B1 k1 fun h' he g1 hk=>JP I1 c1 l1 a1 he g1 hk hR
section
variable {G:bB} {ρ ρ':List Addr} {H H':Hp} {S:Hs}
def WK (G:bB) (ρ0:List Addr) (H0:Hp) (q:Kq) (lk:List Lk) (xs:List Vl):Prop:=∀ ρ H S,jV ρ0 H0 ρ H→bf G ρ H S→cP lk S→∃ vs,q.cur G.K H vs∧au G ρ H xs vs
theorem WK.step {q:Kq} {lk:List Lk} {xs:List Vl} (h:WK G ρ H q lk xs) (a:jV ρ H ρ' H'):WK G ρ' H' q lk xs:=fun ρ2 H2 S b s l=>h ρ2 H2 S (a.trans b) s l
theorem walk_of (s:bf G ρ H S) {x:Vl} {v:V} {lk:List Lk} {xs:List Vl} (h:VR G ρ H x v) (e:lZ S x=some (lk,xs)):∃ q:Kq,v=q.v∧(∃ vs,q.cur G.K H vs)∧WK G ρ H q lk xs:=by
 cases x with
 | tup ys=>
  simp only [lZ,Option.some.injEq,Prod.mk.injEq] at e
  obtain ⟨rfl,rfl⟩:=e
  simp only [VR] at h
  obtain ⟨a,vs,rfl,h1,h2⟩:=h
  exact ⟨.tup a,rfl,⟨vs,h1.sq⟩,fun ρ' H' S' st _ _=>⟨vs,(h1.fV st).sq,au.fV st _ _ h2⟩⟩
 | lst ys=>
  simp only [lZ,Option.some.injEq,Prod.mk.injEq] at e
  obtain ⟨rfl,rfl⟩:=e
  simp only [VR] at h
  obtain ⟨a,vs,rfl,h1,h2⟩:=h
  exact ⟨.lst a,rfl,⟨vs,h1.sq⟩,fun ρ' H' S' st _ _=>⟨vs,(h1.fV st).sq,au.fV st _ _ h2⟩⟩
 | ref r=>
  simp only [lZ] at e
  split at e
  ·rename_i ys eo
   simp only [Option.some.injEq,Prod.mk.injEq] at e
   obtain ⟨rfl,rfl⟩:=e
   obtain ⟨a,rfl,ha,vs,h1,h2⟩:=s.ref h eo
   refine ⟨.lst a,rfl,⟨vs,SqL.of h1⟩,fun ρ' H' S' st s' l=> ?_⟩
   have l1:=l (r,.lst ys) (by simp)
   have hx:=VR.fV st _ _ h
   obtain ⟨a',e',_,vs',h1',h2'⟩:=s'.ref hx l1
   cases e'
   exact ⟨vs',SqL.of h1',h2'⟩
  ·cases e
 | _=>simp only [lZ] at e;cases e
theorem au.chars (z:Str):au G ρ H (iI z) (z.cps.toList.map fun c=>V.str ⟨#[c]⟩):=by
 unfold iI
 induction z.cps.toList with
 | nil=>exact au.nil
 | cons c cs ih=>exact au.cons (by simp only [VR]) ih
structure JW (G:bB) (J:It) (ρ0:List Addr) (H0:Hp) (lk:List Lk) (xs:List Vl):Prop where
 go:∀ ρ H S i x,jV ρ0 H0 ρ H→bf G ρ H S→cP lk S→xs[i]? =some x→J.go i H∧∀ v H',J.yld i H v H'→Same H H'∧VR G ρ H' x v
 stop:∀ ρ H S,jV ρ0 H0 ρ H→bf G ρ H S→cP lk S→J.stop xs.length H
theorem au.at_ {xs:List Vl} {vs:List V} {i:Nat} {x:Vl} {v:V} (h:au G ρ H xs vs) (e:xs[i]? =some x) (e':vs[i]? =some v):VR G ρ H x v:=by
 obtain ⟨w,h1,h2⟩:=h.get e
 rw [e'] at h1;cases h1
 exact h2
theorem aJ {α:Type} {xs:List α} {i:Nat} {x:α} (e:xs[i]? =some x):i<xs.length:=(List.getElem?_eq_some_iff.mp e).1
theorem JW.seq {q:Kq} {lk:List Lk} {xs:List Vl} (w:WK G ρ H q lk xs):JW G (Itq G.K q) ρ H lk xs where
 go:=fun ρ' H' S i x st s l e=>by
  obtain ⟨vs,c,r⟩:=w ρ' H' S st s l
  refine ⟨⟨vs,c,by rw [← r.length];exact aJ e⟩,fun v H2 ⟨eH,y⟩=> ?_⟩
  subst eH
  exact ⟨Same.refl _,r.at_ e (y vs c)⟩
 stop:=fun ρ' H' S st s l=>by
  obtain ⟨vs,c,r⟩:=w ρ' H' S st s l
  exact ⟨vs,c,r.length⟩
theorem Fv (s:bf G ρ H S) {T:Addr} {x y:V} {a b:Vl} (hT:H T=none) (ha:VR G ρ H a x) (hb:VR G ρ H b y):Same H (upd H T (.tup [x,y]))∧VR G ρ (upd H T (.tup [x,y])) (.tup [a,b]) (.ref T):=by
 have sm:Same H (upd H T (.tup [x,y])):=fK hT
 refine ⟨sm,?_⟩
 simp only [VR]
 exact ⟨T,[x,y],rfl,.inl ⟨.inl upd_same,s.free hT⟩,au.step (bu sm) _ _ (au.cons ha (au.cons hb au.nil))⟩
theorem Wf:∀ {xs ys:List Vl} {i:Nat} {x:Vl},(Cv xs ys)[i]? =some x→∃ a b,xs[i]? =some a∧ys[i]? =some b∧x=.tup [a,b]
 | [],_,_,_,e=>by simp [Cv] at e
 | _::_,[],_,_,e=>by simp [Cv] at e
 | x::xs,y::ys,0,z,e=>by simp [Cv] at e;exact ⟨x,y,rfl,rfl,e.symm⟩
 | x::xs,y::ys,i+1,z,e=>by
  simp only [Cv,List.getElem?_cons_succ] at e ⊢
  exact Wf e
theorem Rf:∀ {xs ys:List Vl},(Cv xs ys).length=min xs.length ys.length
 | [],_=>by simp [Cv]
 | _::_,[]=>by simp [Cv]
 | x::xs,y::ys=>by simp only [Cv,List.length_cons,Rf];omega
theorem vG {l1 l2:List Lk} (h:cP (l1++l2) S):cP l1 S∧cP l2 S:=⟨fun p hp=>h p (List.mem_append_left _ hp),fun p hp=>h p (List.mem_append_right _ hp)⟩
theorem JW.zip {q r:Kq} {l1 l2:List Lk} {xs ys:List Vl} (w1:WK G ρ H q l1 xs) (w2:WK G ρ H r l2 ys):JW G (aju G.K q r) ρ H (l1++l2) (Cv xs ys) where
 go:=fun ρ' H' S i x st s l e=>by
  obtain ⟨vs,c1,r1⟩:=w1 ρ' H' S st s (vG l).1
  obtain ⟨ws,c2,r2⟩:=w2 ρ' H' S st s (vG l).2
  obtain ⟨a,b,e1,e2,rfl⟩:=Wf e
  refine ⟨⟨vs,ws,c1,c2,by rw [← r1.length];exact aJ e1,by rw [← r2.length];exact aJ e2⟩,fun v H2 ⟨T,x,y,ev,hT,eH,y1,y2⟩=> ?_⟩
  subst ev eH
  exact Fv s hT (r1.at_ e1 (y1 vs c1)) (r2.at_ e2 (y2 ws c2))
 stop:=fun ρ' H' S st s l=>by
  obtain ⟨vs,c1,r1⟩:=w1 ρ' H' S st s (vG l).1
  obtain ⟨ws,c2,r2⟩:=w2 ρ' H' S st s (vG l).2
  have:=r1.length
  have:=r2.length
  have:= @Rf xs ys
  exact ⟨vs,ws,c1,c2,by omega,by omega,by omega⟩
theorem pN:∀ {xs:List Vl} {k:Int} {i:Nat} {x:Vl},(iH k xs)[i]? =some x→∃ a,xs[i]? =some a∧x=.tup [.int (k+(i:Nat)),a]
 | [],_,_,_,e=>by simp [iH] at e
 | x::xs,k,0,z,e=>by simp [iH] at e;exact ⟨x,rfl,by rw [← e];simp⟩
 | x::xs,k,i+1,z,e=>by
  simp only [iH,List.getElem?_cons_succ] at e ⊢
  obtain ⟨a,h1,h2⟩:=pN e
  refine ⟨a,h1,?_⟩
  rw [h2]
  have:k+1+(i:Nat)=k+((i+1:Nat):Int):=by omega
  rw [this]
theorem vA:∀ {xs:List Vl} {k:Int},(iH k xs).length=xs.length
 | [],_=>rfl
 | x::xs,k=>by simp only [iH,List.length_cons,vA]
theorem JW.YX {q:Kq} {lk:List Lk} {xs:List Vl} {k:Int} (w:WK G ρ H q lk xs):JW G (aaO G.K k q) ρ H lk (iH k xs) where
 go:=fun ρ' H' S i x st s l e=>by
  obtain ⟨vs,c,r⟩:=w ρ' H' S st s l
  obtain ⟨a,e1,rfl⟩:=pN e
  refine ⟨⟨vs,c,by rw [← r.length];exact aJ e1⟩,fun v H2 ⟨T,x,ev,hT,eH,y⟩=> ?_⟩
  subst ev eH
  exact Fv s hT (by simp only [VR]) (r.at_ e1 (y vs c))
 stop:=fun ρ' H' S st s l=>by
  obtain ⟨vs,c,r⟩:=w ρ' H' S st s l
  exact ⟨vs,c,by rw [vA];exact r.length⟩
theorem Lz:∀ {n:Nat} {lo:Int} {i:Nat} {x:Vl},(jd lo n)[i]? =some x→i<n∧x=.int (lo+(i:Nat))
 | 0,_,_,_,e=>by simp [jd] at e
 | n+1,lo,0,z,e=>by simp [jd] at e;exact ⟨by omega,by rw [← e];simp⟩
 | n+1,lo,i+1,z,e=>by
  simp only [jd,List.getElem?_cons_succ] at e
  obtain ⟨h1,h2⟩:=Lz e
  refine ⟨by omega,?_⟩
  rw [h2]
  have:lo+1+(i:Nat)=lo+((i+1:Nat):Int):=by omega
  rw [this]
theorem gU:∀ {n:Nat} {lo:Int},(jd lo n).length=n
 | 0,_=>rfl
 | n+1,lo=>by simp only [jd,List.length_cons,gU]
theorem JW.rng {lo:Int} {n:Nat}:JW G (Itr lo n) ρ H [] (jd lo n) where
 go:=fun ρ' H' S i x st s l e=>by
  obtain ⟨h1,rfl⟩:=Lz e
  refine ⟨h1,fun v H2 ⟨eH,ev⟩=> ?_⟩
  subst eH ev
  exact ⟨Same.refl _,by simp only [VR]⟩
 stop:=fun ρ' H' S st s l=>by
  show n≤_
  rw [gU];exact Nat.le_refl _
end
section
variable (G:bB) (M:aF) (W:WX)
def tS (c:Src):TI:=fun σ H R=>∃ ρ η S,bf G ρ H S∧ER G ρ H η σ∧PR G W σ ρ H (pH M c η S) (fun ρ1 H1 p _=>∀ J,JW G J ρ1 H1 p.1 p.2→R J H1)
end
theorem _root_.L2.PI.imp {X:Cx} {tg e:Expr} {t t':TI} (h:PI X tg e t) (k:∀ σ H Q,t' σ H Q→t σ H Q):PI X tg e t':=⟨fun pins s σ H Q I q=>h.run pins s σ H Q I (k σ H Q q)⟩
section
variable {G:bB} {M:aF} {W:WX} {X:Cx} {k:Nat} {tg a b:Expr} {ca cb:E} {p pos tM:Pos} {uD:List Expr} {kk:Nat}
theorem eU (g:Good G k X) (ha:PE X a (tE G M W ca)):PI X tg a (tS G M W (.sq ca)):=(abJ ha).imp fun σ H R ⟨ρ,η,S,s,r,h⟩=>⟨ρ,η,S,s,r,by
 simp only [pH] at h
 refine h.bind.mono fun ρ1 H1 x S1 st s1 h1 v hv=> ?_
 obtain ⟨⟨lk,xs⟩,e,h2⟩:=h1.ig
 obtain ⟨q,rfl,hq,w⟩:=walk_of s1 hv e
 rw [g.K]
 exact ⟨q,rfl,hq,h2.here s1 _ (JW.seq w)⟩⟩
theorem Bb (g:Good G k X) (ha:PE X a (tE G M W ca)):PI X tg a (tS G M W (.chars ca)):=(abJ ha).imp fun σ H R ⟨ρ,η,S,s,r,h⟩=>⟨ρ,η,S,s,r,by
 simp only [pH] at h
 refine h.bind.mono fun ρ1 H1 x S1 st s1 h1 v hv=> ?_
 cases x with
 | str z=>
  simp only [VR] at hv
  subst hv
  rw [g.K]
  exact ⟨.txt z,rfl,⟨_,rfl⟩,h1.here s1 _ (JW.seq fun ρ' H' S' st _ _=>⟨_,rfl,au.chars z⟩)⟩
 | _=>exact h1.elim⟩
theorem PR.re1 {α β γ:Type} {σ:L2.St} {ρ:List Addr} {H:Hp} {r:Res α} {f:α→Hs→Res β} {gg:α→γ} {ok:List Addr→Hp→β→Hs→Prop} {ok':List Addr→Hp→γ→Hs→Prop} (h:PR G W σ ρ H (r.bind f) ok)
  (kk:∀ ρ1 H1 x S1,Step ρ H ρ1 H1→bf G ρ1 H1 S1→PR G W σ ρ1 H1 (f x S1) ok→ok' ρ1 H1 (gg x) S1):PR G W σ ρ H (r.bind fun x S1=>.ok (gg x) S1) ok':=by
 cases r with
 | ok x S=>exact fun ρ1 H1 st s=>kk ρ1 H1 x S st s (PR.step h st)
 | exc x S=>exact h
 | bad=>exact h
theorem agG {η:Sg} {S:Hs}:evs M (.cons ca .nil) η S=(ev M ca η S).bind fun x S1=>.ok [x] S1:=by simp only [evs,Res.bind]
theorem akQ {η:Sg} {S:Hs}:evs M (.cons ca (.cons cb .nil)) η S=(ev M ca η S).bind fun x S1=>(ev M cb η S1).bind fun y S2=>.ok [x,y] S2:=by
 simp only [evs]
 cases ev M ca η S with
 | ok x S1=>simp only [Res.bind];cases ev M cb η S1<;>rfl
 | exc x S1=>rfl
 | bad=>rfl
theorem jD (hg:Gl X "range") (hm:X.mg "range"=none) (ha:PA X [a] (tA G M W (.cons ca .nil))) (hs:starEach [a] X.env=[(false,eval a X.env)]:=by rfl):PI X tg (.Call (.Name "range" p) [a] [] pos) (tS G M W (.yC ca)):=(pi_range1 hg hm ha hs).imp fun σ H R ⟨ρ,η,S,s,r,h⟩=>⟨ρ,η,S,s,r,by
 simp only [pH] at h
 rw [agG]
 refine PR.re1 h fun ρ1 H1 x S1 st s1 h1 vs hv=> ?_
 cases x with
 | int j=>
  simp only at h1
  split at h1
  ·rename_i hj
   simp only [au,VR] at hv
   obtain ⟨v,r,rfl,rfl,rfl⟩:=hv
   exact ⟨j,rfl,hj.1,hj.2,h1.here s1 _ JW.rng⟩
  ·exact h1.elim
 | _=>exact h1.elim⟩
theorem aej (g:Good G k X) (hg:Gl X "enumerate") (hm:X.mg "enumerate"=none) (ha:PA X [a] (tA G M W (.cons ca .nil))) (hs:starEach [a] X.env=[(false,eval a X.env)]:=by rfl):PI X (.Tuple uD kk tM) (.Call (.Name "enumerate" p) [a] [] pos) (tS G M W (.YX ca 0)):=(abv hg hm ha hs).imp fun σ H R ⟨ρ,η,S,s,r,h⟩=>⟨ρ,η,S,s,r,by
 simp only [pH] at h
 rw [agG]
 refine PR.re1 h fun ρ1 H1 x S1 st s1 h1 vs hv=> ?_
 simp only [au] at hv
 obtain ⟨v,r,rfl,hv1,rfl⟩:=hv
 obtain ⟨⟨l1,xs⟩,e1,h2⟩:=(PR.bind h1).ig
 obtain ⟨q,rfl,⟨vs,c1⟩,w1⟩:=walk_of s1 hv1 e1
 rw [g.K];exact ⟨q,vs,rfl,c1,(h2.here s1).here s1 _ (JW.YX w1)⟩⟩
end
end Oz
namespace Oz
open PySem L2 PyProof.Rows
theorem _root_.L2.PG.imp {X:Cx} {e:Expr} {t t':TG} (h:PG X e t) (k:∀ v σ H Q,t' v σ H Q→t v σ H Q):PG X e t':=⟨fun pins s σ H v u Q I r q=>h.run pins s σ H v u Q I r (k v σ H Q q)⟩
theorem _root_.L2.PGs.imp {X:Cx} {e:List Expr} {t t':TGs} (h:PGs X e t) (k:∀ v σ H Q,t' v σ H Q→t v σ H Q):PGs X e t':=⟨fun pins s σ H v u Q I r q=>h.run pins s σ H v u Q I r (k v σ H Q q)⟩
section
variable {G:bB} {ρ ρ':List Addr} {H H':Hp} {S:Hs}
theorem ER.set {η:Sg} {σ:L2.St} (h:ER G ρ H η σ) (i:Nat) {x:Vl} {v:V} (hv:VR G ρ H x v):ER G ρ H (η.set i (some x)) (σ.set i (some v)) where
 len:=by rw [List.length_set,List.length_set];exact h.len
 at_:=fun j y e=>by
  rw [List.getElem?_set] at e ⊢
  split at e
  ·rename_i hij
   split at e
   ·rename_i hl
    simp only [Option.some.injEq] at e
    subst e
    rw [if_pos hij,if_pos (by rw [← h.len];exact hl)]
    exact ⟨v,rfl,hv⟩
   ·cases e
  ·rename_i hij
   rw [if_neg hij]
   exact h.at_ j y e
theorem ER.ajL {η:Sg} {σ:L2.St} (h:ER G ρ H η σ) (i:Nat) {w:Option V}:ER G ρ H (η.set i none) (σ.set i w) where
 len:=by rw [List.length_set,List.length_set];exact h.len
 at_:=fun j y e=>by
  rw [List.getElem?_set] at e ⊢
  split at e
  ·split at e<;>simp at e
  ·rename_i hij
   rw [if_neg hij]
   exact h.at_ j y e
mutual
def Tg.slots:Tg→List Nat
 | .nm i=>[i]
 | .tp ts=>ts.slots
def V2.slots:V2→List Nat
 | .nil=>[]
 | .cons t ts=>t.slots++ts.slots
end
def Off (is:List Nat) (σ σ':L2.St):Prop:=σ'.length=σ.length∧∀ i,i∉is→σ'[i]? =σ[i]?
theorem Off.trans {is js:List Nat} {σ σ' σ'':L2.St} (a:Off is σ σ') (b:Off js σ' σ''):Off (is++js) σ σ'':=
 ⟨b.1.trans a.1,fun i h=>(b.2 i fun z=>h (List.mem_append_right _ z)).trans (a.2 i fun z=>h (List.mem_append_left _ z))⟩
def tG (G:bB) (t:Tg):TG:=fun v σ H Q=>∃ ρ S η x η1,bf G ρ H S∧ER G ρ H η σ∧VR G ρ H x v∧aZ t x η=some η1∧∀ σ',Off t.slots σ σ'→ER G ρ H η1 σ'→Q σ' H
def tGs (G:bB) (t:V2):TGs:=fun vs σ H Q=>∃ ρ S η xs η1,bf G ρ H S∧ER G ρ H η σ∧au G ρ H xs vs∧lX t xs η=some η1∧∀ σ',Off t.slots σ σ'→ER G ρ H η1 σ'→Q σ' H
def V2.len:V2→Nat
 | .nil=>0
 | .cons _ ts=>ts.len+1
theorem xN:∀ {ts:V2} {xs:List Vl} {η η1:Sg},lX ts xs η=some η1→xs.length=ts.len
 | .nil,[],_,_,_=>rfl
 | .nil,_::_,_,_,e=>by simp [lX] at e
 | .cons t ts,[],_,_,e=>by simp [lX] at e
 | .cons t ts,x::xs,η,η1,e=>by
  simp only [lX] at e
  split at e
  ·simp only [List.length_cons,V2.len,xN e]
  ·cases e
variable {X:Cx} {k:Nat} {pos:Pos}
theorem ajN (g:Good G k X) (i:Nat) {x:Str} (hi:X.N[i]? =some x) (hx:Loc X.env.scope x) (hf:X.fn x=true∨X.env.scope.names.lookup x=some .local:=by first | exact .inl rfl | exact .inr rfl | assumption):PG X (.Name x pos) (tG G (.nm i)):=(pg_name g.nd hi hx hf).imp fun v σ H Q ⟨ρ,S,η,x,η1,s,r,hv,hb,q⟩=>by
 simp only [aZ,Option.some.injEq] at hb
 subst hb
 refine q _ ⟨List.length_set,fun j hj=> ?_⟩ (r.set i hv)
 rw [List.getElem?_set_ne fun e=>hj (by rw [← e];simp [Tg.slots])]
theorem eZ:PGs X [] (tGs G .nil):=pgs_nil.imp fun vs σ H Q ⟨ρ,S,η,xs,η1,s,r,hv,hb,q⟩=>by
 cases xs with
 | nil=>
  simp only [lX,Option.some.injEq] at hb
  subst hb
  simp only [au] at hv
  exact ⟨hv,q _ ⟨rfl,fun _ _=>rfl⟩ r⟩
 | cons x xs=>simp [lX] at hb
theorem bj {e:Expr} {es:List Expr} {t:Tg} {ts:V2} (h1:PG X e (tG G t)) (h2:PGs X es (tGs G ts))
  (hs:(assignEach (e::es) X.env).map (·.2)=assign e X.env::(assignEach es X.env).map (·.2):=by rfl):PGs X (e::es) (tGs G (.cons t ts)):=(pgs_cons h1 h2 hs).imp fun vs σ H Q ⟨ρ,S,η,xs,η1,s,r,hv,hb,q⟩=>by
 cases xs with
 | nil=>simp [lX] at hb
 | cons x xs=>
  simp only [au] at hv
  obtain ⟨v,rr,rfl,hv1,hv2⟩:=hv
  simp only [lX] at hb
  split at hb
  ·rename_i η2 hb2
   exact ⟨v,rr,rfl,ρ,S,η,x,η2,s,r,hv1,hb2,fun σ' o1 r'=>⟨ρ,S,η2,xs,η1,s,r',hv2,hb,fun σ'' o2 r''=>q σ'' (by simp only [V2.slots];exact o1.trans o2) r''⟩⟩
  ·cases hb
theorem fB [bT G X] (g:Good G k X) {es:List Expr} {kk:Nat} {ts:V2} (h:PGs X es (tGs G ts)) (hn:(assignEach es X.env).length=ts.len:=by rfl) (Rq:(assignEach es X.env).findIdx? (·.1)=none:=by rfl):PG X (.Tuple es kk pos) (tG G (.tp ts)):=by
 refine ⟨fun pins s σ H v u Q I r ⟨ρ,S,η,x,η1,s0,re,hv,hb,q⟩=> ?_⟩
 cases x with
 | tup xs=>
  simp only [aZ] at hb
  simp only [VR] at hv
  obtain ⟨a,vs,rfl,h1,h2⟩:=hv
  exact (pg_tup g.calm h hn Rq).run pins s σ H _ u Q I r ⟨a,vs,rfl,by rw [g.K];exact h1.sq,by rw [← h2.length];exact xN hb,ρ,S,η,xs,η1,s0,re,h2,hb,q⟩
 | lst xs=>
  simp only [aZ] at hb
  simp only [VR] at hv
  obtain ⟨a,vs,rfl,h1,h2⟩:=hv
  exact (pg_unl g.calm h hn Rq).run pins s σ H _ u Q I r ⟨a,vs,rfl,h1.sq,by rw [← h2.length];exact xN hb,ρ,S,η,xs,η1,s0,re,h2,hb,q⟩
 | _=>simp only [aZ] at hb;cases hb
end
section
variable (G:bB) (M:aF) (W:WX)
def PQ (ρ:List Addr) (H:Hp) (D:Ends):Out→Prop
 | .nx η S=>∀ ρ' H' σ',Step ρ H ρ' H'→bf G ρ' H' S→ER G ρ' H' η σ'→D.nx σ' H'
 | .brk η S=>∀ ρ' H' σ',Step ρ H ρ' H'→bf G ρ' H' S→ER G ρ' H' η σ'→D.bk σ' H'
 | .cnt η S=>∀ ρ' H' σ',Step ρ H ρ' H'→bf G ρ' H' S→ER G ρ' H' η σ'→D.ct σ' H'
 | .ret r S=>∀ ρ' H',Step ρ H ρ' H'→bf G ρ' H' S→okR G H D.rt ρ' H' r S
 | .exc x η S=>∀ ρ' H' σ',Step ρ H ρ' H'→bf G ρ' H' S→ER G ρ' H' η σ'→XW G W σ' ρ' H' x
 | .bad=>False
def tC (c:C):TS:=fun D σ H=>∃ ρ η S,bf G ρ H S∧ER G ρ H η σ∧PQ G W ρ H D (aP M c η S)
def vL (c:Cs):TS:=fun D σ H=>∃ ρ η S,bf G ρ H S∧ER G ρ H η σ∧PQ G W ρ H D (exec M c η S)
end
section
variable {G:bB} {M:aF} {W:WX} {X:Cx} {k:Nat} {pos:Pos} {ρ ρ':List Addr} {H H':Hp} {S S':Hs} {D D':Ends} {o:Out} {st:Stmt} {rest:List Stmt} {c:C} {cs:Cs}
theorem okR.step {Q:VK} {ρ2:List Addr} {H2:Hp} {r:Rv} {T:Hs} (s:bf G ρ H S) (a:Step ρ H ρ' H') (s':bf G ρ' H' S') (h:okR G H Q ρ2 H2 r T):okR G H' Q ρ2 H2 r T:=by
 cases r with
 | val x=>exact h
 | frs o=>exact fun p hp=>h p (none_of s s' a hp)
theorem PQ.step (s:bf G ρ H S) (a:Step ρ H ρ' H') (s':bf G ρ' H' S') (h:PQ G W ρ H D o):PQ G W ρ' H' D o:=by
 cases o with
 | nx η T=>exact fun ρ2 H2 σ2 b=>h ρ2 H2 σ2 (a.trans b)
 | brk η T=>exact fun ρ2 H2 σ2 b=>h ρ2 H2 σ2 (a.trans b)
 | cnt η T=>exact fun ρ2 H2 σ2 b=>h ρ2 H2 σ2 (a.trans b)
 | exc x η T=>exact fun ρ2 H2 σ2 b=>h ρ2 H2 σ2 (a.trans b)
 | ret r T=>exact fun ρ2 H2 b s2=>okR.step s a s' (h ρ2 H2 (a.trans b) s2)
 | bad=>exact h
theorem PQ.out {α:Type} {r:Res α} {η:Sg} {σ:L2.St} {f:α→Hs→Out} (s:bf G ρ H S) (er:ER G ρ H η σ) (h:PQ G W ρ H D (r.out η f)):PR G W σ ρ H r fun ρ1 H1 a S1=>PQ G W ρ1 H1 D (f a S1):=by
 cases r with
 | ok a S1=>exact fun ρ1 H1 st s1=>PQ.step s st s1 h
 | exc x S1=>exact fun ρ1 H1 st s1=>h ρ1 H1 σ st s1 (er.step st)
 | bad=>exact h
theorem PSs.aO:PSs X [] (vL G M W .nil):=pss_nil.imp fun D σ H ⟨ρ,η,S,s,r,h⟩=>by
 simp only [exec] at h
 exact h ρ H σ (Step.refl _ _) s r
theorem PSs.ao (h1:PS X st (tC G M W c)) (h2:PSs X rest (vL G M W cs)):PSs X (st::rest) (vL G M W (.cons c cs)):=(pss_cons h1 h2).imp fun D σ H ⟨ρ,η,S,s,r,h⟩=>⟨ρ,η,S,s,r,by
 simp only [exec] at h
 cases e:aP M c η S with
 | nx η1 S1=>
  rw [e] at h
  exact fun ρ1 H1 σ1 st s1 r1=>⟨ρ1,η1,S1,s1,r1,PQ.step s st s1 h⟩
 | _=>rw [e] at h;exact h⟩
theorem adf:PS X st (tC G M W .bad):=ps_never.imp fun D σ H ⟨ρ,η,S,s,r,h⟩=>by
 simp only [aP] at h;exact h
variable {e:Expr} {ce:E} {cf:F} {tg:Expr} {t:Tg}
theorem aG (he:PE X e (tE G M W ce)) (hg:PG X tg (tG G t)) (hs:swapsWithSole [tg] e pos.line X.env=pure false:=by rfl) (hw:swappedStores [tg] e X.env=pure none:=by rfl)
  (h1:(assignEach [tg] X.env).map (·.2)=[assign tg X.env]:=by rfl):PS X (.Assign [tg] e pos) (tC G M W (.asg t ce)):=(ps_asg he hg hs hw h1).imp fun D σ H ⟨ρ,η,S,s,r,h⟩=>⟨ρ,η,S,s,r,by
 simp only [aP] at h
 refine (PQ.out s r h).mono fun ρ1 H1 x S1 st s1 h1 v hv=> ?_
 split at h1
 ·rename_i η1 e1
  exact ⟨ρ1,S1,η,x,η1,s1,r.step st,hv,e1,fun σ' _ r'=>h1 ρ1 H1 σ' (Step.refl _ _) s1 r'⟩
 ·exact h1.elim⟩
theorem fL (he:PE X e (tE G M W ce)) (hs:swapsWith e none pos.line X.env=pure false:=by rfl):PS X (.Expr e pos) (tC G M W (.ex ce)):=(ps_expr he hs).imp fun D σ H ⟨ρ,η,S,s,r,h⟩=>⟨ρ,η,S,s,r,by
 simp only [aP] at h
 refine (PQ.out s r h).mono fun ρ1 H1 x S1 st s1 h1 v hv=> ?_
 exact h1 ρ1 H1 σ (Step.refl _ _) s1 (r.step st)⟩
theorem bh (he:PE X e (tE G M W ce)):PS X (.Return (some e) pos) (tC G M W (.ret ce)):=(ps_ret he).imp fun D σ H ⟨ρ,η,S,s,r,h⟩=>⟨ρ,η,S,s,r,by
 simp only [aP] at h
 refine (PQ.out s r h).mono fun ρ1 H1 x S1 st s1 h1 v hv=> ?_
 exact h1 ρ1 H1 (Step.refl _ _) s1 v hv⟩
theorem O8 (he:PE X e (tF G M W cf)):PS X (.Return (some e) pos) (tC G M W (.Yq cf)):=(ps_ret he).imp fun D σ H ⟨ρ,η,S,s,r,h⟩=>⟨ρ,η,S,s,r,by
 simp only [aP] at h
 cases eo:d9 M cf η S with
 | ok o S1=>rw [eo] at h;exact fun ρ1 H1 st s1=>h ρ1 H1 st s1
 | exc x S1=>rw [eo] at h;exact fun ρ1 H1 st s1=>h ρ1 H1 σ st s1 (r.step st)
 | bad=>rw [eo] at h;exact h⟩
theorem bM {ct:Expr} {a b:List Stmt} {cc:E} {ca cb:Cs} (hc:PT X ct (tQ G M W cc)) (ha:PSs X a (vL G M W ca)) (hb:PSs X b (vL G M W cb)):PS X (.If ct a b pos) (tC G M W (.ite cc ca cb)):=(ps_if hc ha hb).imp fun D σ H ⟨ρ,η,S,s,r,h⟩=>⟨ρ,η,S,s,r,by
 simp only [aP] at h
 refine (PQ.out s r h).mono fun ρ1 H1 x S1 st s1 h1=> ?_
 cases x with
 | bl b=>
  refine ⟨b,rfl,?_⟩
  cases b with
  | true=>exact ⟨ρ1,η,S1,s1,r.step st,h1⟩
  | false=>exact ⟨ρ1,η,S1,s1,r.step st,h1⟩
 | _=>exact h1.elim⟩
theorem d8 [bT G X] (g:Good G k X) {iter:Expr} {body:List Stmt} {qY:Src} {cb:Cs} (hp:PassesOwn (model X.prog X.w) X.A X.env X.xe) (hi:PI X tg iter (tS G M W qY)) (hg:PG X tg (tG G t)) (hb:PSs X body (vL G M W cb))
  (hs:∀ x,foldedSetIterable iter X.env x=pure x:=by intro _;rfl):PS X (.For tg iter body [] pos) (tC G M W (.for_ t qY cb)):=(ps_for hp g.calm hi hg hb hs).imp fun D σ H ⟨ρ,η,S,s,r,h⟩=>⟨ρ,η,S,s,r,by
 simp only [aP] at h
 refine (PQ.out s r h).mono fun ρ1 H1 p S1 st s1 h1 J jw=> ?_
 obtain ⟨lk,xs⟩:=p
 simp only at h1 jw
 refine ⟨fun i m σ' H'=>m=xs.length - i∧i≤xs.length∧∃ ρ' η' S',Step ρ1 H1 ρ' H'∧bf G ρ' H' S'∧ER G ρ' H' η' σ'∧PQ G W ρ' H' D (forL (fun η1 S2=>exec M cb η1 S2) t lk (xs.drop i) η' S'),⟨xs.length,by simp,Nat.zero_le _,ρ1,η,S1,Step.refl _ _,s1,r.step st,by simpa using h1⟩,?_⟩
 rintro i m σ' H' ⟨rfl,hi,ρ',η',S',gG,s',r',h'⟩
 by_cases hl:i<xs.length
 ·refine .inr ?_
  rw [List.drop_eq_getElem_cons hl] at h'
  simp only [forL] at h'
  split at h'
  ·rename_i l'
   split at h'
   ·exact h'.elim
   ·rename_i η2 e2
    obtain ⟨hgo,hy⟩:=jw.go ρ' H' S' i xs[i] gG.x s' l' (by simp [hl])
    refine ⟨hgo,fun σ3 H3=>∃ ρ3 η3 S3,Step ρ1 H1 ρ3 H3∧bf G ρ3 H3 S3∧ER G ρ3 H3 η3 σ3∧PQ G W ρ3 H3 D (forL (fun η1 S2=>exec M cb η1 S2) t lk (xs.drop (i+1)) η3 S3),fun σ3 H3 ⟨ρ3,η3,S3,a1,a2,a3,a4⟩=>⟨xs.length - (i+1),by omega,rfl,by omega,ρ3,η3,S3,a1,a2,a3,a4⟩,fun v H3 y=> ?_⟩
    obtain ⟨sm,hv⟩:=hy v H3 y
    have lN:Step ρ' H' ρ' H3:=bu sm
    have s3:=s'.same sm
    refine ⟨ρ',S',η',xs[i],η2,s3,r'.step lN,hv,e2,fun σ4 _ r4=>⟨ρ',η2,S',s3,r4,?_⟩⟩
    have h3:=PQ.step s' lN s3 h'
    cases eo:exec M cb η2 S' with
    | nx η4 S4=>rw [eo] at h3;exact fun ρ5 H5 σ5 b5 s5 r5=>⟨ρ5,η4,S4,(gG.trans lN).trans b5,s5,r5,PQ.step s3 b5 s5 h3⟩
    | cnt η4 S4=>rw [eo] at h3;exact fun ρ5 H5 σ5 b5 s5 r5=>⟨ρ5,η4,S4,(gG.trans lN).trans b5,s5,r5,PQ.step s3 b5 s5 h3⟩
    | brk η4 S4=>rw [eo] at h3;exact h3
    | ret rr T=>rw [eo] at h3;exact h3
    | exc x η4 T=>rw [eo] at h3;exact h3
    | bad=>rw [eo] at h3;exact h3
  ·exact h'.elim
 ·have e:i=xs.length:=by omega
  subst e
  rw [List.drop_length] at h'
  simp only [forL] at h'
  split at h'
  ·rename_i l'
   exact .inl ⟨jw.stop ρ' H' S' gG.x s' l',h' ρ' H' σ' (Step.refl _ _) s' r'⟩
  ·exact h'.elim⟩
theorem XN (g:Good G k X) {ct:Expr} {body:List Stmt} {cc:E} {cb:Cs} (hp:PassesOwn (model X.prog X.w) X.A X.env X.xe) (hc:PT X ct (tQ G M W cc)) (hb:PSs X body (vL G M W cb)):PS X (.While ct body [] pos) (tC G M W (.whl cc cb)):=(ps_while hp hc hb).imp fun D σ H ⟨ρ,η,S,s,r,h⟩=>by
 simp only [aP] at h
 refine ⟨fun m σ' H'=>∃ ρ' η' S',bf G ρ' H' S'∧ER G ρ' H' η' σ'∧PQ G W ρ' H' D (FW (fun η1 S2=>ev M cc η1 S2) (fun η1 S2=>exec M cb η1 S2) m η' S'),⟨M.fuel,ρ,η,S,s,r,h⟩,?_⟩
 rintro m σ' H' ⟨ρ',η',S',s',r',h'⟩
 cases m with
 | zero=>exact h'.elim
 | succ n=>
  simp only [FW] at h'
  refine ⟨ρ',η',S',s',r',?_⟩
  cases e:ev M cc η' S' with
  | ok x S1=>
   rw [e] at h'
   cases x with
   | bl b=>
    cases b with
    | false=>exact fun ρ1 H1 bU s1=>⟨false,rfl,h' ρ1 H1 σ' bU s1 (r'.step bU)⟩
    | true=>
     refine fun ρ1 H1 bU s1=>⟨true,rfl,fun σ3 H3=>∃ ρ3 η3 S3,bf G ρ3 H3 S3∧ER G ρ3 H3 η3 σ3∧PQ G W ρ3 H3 D (FW (fun η1 S2=>ev M cc η1 S2) (fun η1 S2=>exec M cb η1 S2) n η3 S3),fun σ3 H3 a=>⟨n,Nat.lt_succ_self _,a⟩,ρ1,η',S1,s1,r'.step bU,?_⟩
     have h3:=PQ.step s' bU s1 h'
     cases eo:exec M cb η' S1 with
     | nx η4 S4=>simp only [eo] at h3;exact fun ρ5 H5 σ5 b5 s5 r5=>⟨ρ5,η4,S4,s5,r5,PQ.step s1 b5 s5 h3⟩
     | cnt η4 S4=>simp only [eo] at h3;exact fun ρ5 H5 σ5 b5 s5 r5=>⟨ρ5,η4,S4,s5,r5,PQ.step s1 b5 s5 h3⟩
     | brk η4 S4=>simp only [eo] at h3;exact h3
     | ret rr T=>simp only [eo] at h3;exact h3
     | exc x η4 T=>simp only [eo] at h3;exact h3
     | bad=>simp only [eo] at h3;exact h3
   | _=>exact h'.elim
  | exc x S1=>rw [e] at h';exact fun ρ1 H1 bU s1=>h' ρ1 H1 σ' bU s1 (r'.step bU)
  | bad=>rw [e] at h';exact h'
theorem PQ.out2 {α γ δ:Type} {η:Sg} {σ:L2.St} {r:Res α} {r2:α→Hs→Res γ} {f:α→γ→Hs→Out} {gg:α→γ→δ} {ok':List Addr→Hp→δ→Hs→Prop} (s:bf G ρ H S) (er:ER G ρ H η σ) (h:PQ G W ρ H D (r.out η fun x S1=>(r2 x S1).out η (f x)))
  (kk:∀ ρ1 H1 x y S1,Step ρ H ρ1 H1→bf G ρ1 H1 S1→PQ G W ρ1 H1 D (f x y S1)→ok' ρ1 H1 (gg x y) S1):PR G W σ ρ H (r.bind fun x S1=>(r2 x S1).bind fun y S2=>.ok (gg x y) S2) ok':=by
 cases r with
 | ok x S1=>
  simp only [Res.out,Res.bind] at h ⊢
  cases e:r2 x S1 with
  | ok y S2=>rw [e] at h;exact fun ρ1 H1 st s2=>kk ρ1 H1 x y S2 st s2 (PQ.step s st s2 h)
  | exc z S2=>rw [e] at h;exact fun ρ1 H1 st s2=>h ρ1 H1 σ st s2 (er.step st)
  | bad=>rw [e] at h;exact h
 | exc z S1=>exact fun ρ1 H1 st s1=>h ρ1 H1 σ st s1 (er.step st)
 | bad=>exact h
theorem ad9 [bT G X] (g:Good G k X) {i j:Nat} {x y:Str} {a b:Expr} {ca cb:E} {px py pt:Pos} {kt k2:Nat} {pt2:Pos} (hi:X.N[i]? =some x) (hj:X.N[j]? =some y) (hij:i≠j)
  (hx:X.env.scope.names.lookup x=some .local) (hy:X.env.scope.names.lookup y=some .local) (ha:PA X [a,b] (tA G M W (.cons ca (.cons cb .nil))))
  (hw:swappedStores [.Tuple [.Name x px,.Name y py] kt pt] (.Tuple [a,b] k2 pt2) X.env=pure (some [x,y]))
  (hs:swapsWithSole [.Tuple [.Name x px,.Name y py] kt pt] (.Tuple [a,b] k2 pt2) pos.line X.env=pure false:=by rfl) :
  PS X (.Assign [.Tuple [.Name x px,.Name y py] kt pt] (.Tuple [a,b] k2 pt2) pos) (tC G M W (.par i j ca cb)):=(ps_par g.calm g.nd hi hj hij hx hy ha hw hs).imp fun D σ H ⟨ρ,η,S,s,r,h⟩=>⟨ρ,η,S,s,r,by
 simp only [aP] at h
 rw [akQ]
 refine PQ.out2 s r h fun ρ1 H1 x y S1 st s1 h1 vs hv=> ?_
 simp only [au] at hv
 obtain ⟨v,r',rfl,hv1,w,r'',rfl,hv2,rfl⟩:=hv
 exact ⟨v,w,rfl,h1 ρ1 H1 _ (Step.refl _ _) s1 (((r.step st).set i hv1).set j hv2)⟩⟩
theorem bf.put {r:Nat} {a:Addr} {ho:HO} {o2:Ob} (s:bf G ρ H S) (hr:ρ[r]? =some a) (nf:∀ od u,H a≠some (.frz od u)) (h:OR G ρ (upd H a ho) a o2):Step ρ H ρ (upd H a ho)∧bf G ρ (upd H a ho) (S.set r o2):=by
 have st:Step ρ H ρ (upd H a ho):=⟨List.prefix_refl _,fun b o hb hn=>by
  rw [upd_ne fun e=>hn (by subst e;exact List.mem_of_getElem? hr)];exact hb,fun b hb=>.inl hb,oU nf⟩
 refine ⟨st,by rw [List.length_set];exact s.len,s.nd,fun q o b hq hb=> ?_⟩
 by_cases e:q=r
 ·subst e
  rw [hr] at hb;cases hb
  rw [List.getElem?_set_self (by rw [← s.len];exact aJ hr)] at hq
  cases hq
  exact h
 ·rw [List.getElem?_set_ne (Ne.symm e)] at hq
  have ne:b≠a:=fun z=>e (by
   subst z
   exact (List.getElem?_inj (aJ hb) s.nd).mp (hb.trans hr.symm))
  have k:=s.at_ q o b hq hb
  cases o with
  | lst xs=>obtain ⟨vs,h1,h2⟩:=k;exact ⟨vs,by rw [upd_ne ne];exact h1,au.step st _ _ h2⟩
  | dct ks xs=>obtain ⟨vs,h1,h2,h3⟩:=k;exact ⟨vs,by rw [upd_ne ne];exact h1,h2,au.step st _ _ h3⟩
  | ins c ns xs=>obtain ⟨dx,vs,h1,h2,h3⟩:=k;exact ⟨dx,vs,by rw [upd_ne ne];exact h1,h2,au.step st _ _ h3⟩
  | zU ks xs=>obtain ⟨vs,od,h1,h2,h3⟩:=k;exact ⟨vs,od,by rw [upd_ne ne];exact h1,h2,au.step st _ _ h3⟩
theorem QM {f:Str} {x:Vl} {v:V} (hv:VR G ρ H x v):∀ {ns:List Str} {xs:List Vl} {fs:List (Str × V)},fs.map (·.1)=ns→au G ρ H xs (fs.map (·.2))→(putF f v fs).map (·.1)=(Fy ns xs f x).1∧au G ρ H (Fy ns xs f x).2 ((putF f v fs).map (·.2))
 | [],[],[],_,_=>⟨rfl,au.cons hv au.nil⟩
 | [],_::_,[],_,h=>by simp only [List.map_nil,au] at h;obtain ⟨_,_,e,_⟩:=h;cases e
 | [],_,_::_,h,_=>by simp at h
 | n::ns,_,[],h,_=>by simp at h
 | n::ns,[],_::_,_,h=>by simp [au] at h
 | n::ns,y::xs,(m,w)::fs,h,k=>by
  simp only [List.map_cons,List.cons.injEq] at h
  obtain ⟨rfl,h⟩:=h
  simp only [List.map_cons,au] at k
  obtain ⟨v',r,e,k1,k2⟩:=k
  cases e
  simp only [putF,Fy]
  by_cases q:m=f
  ·rw [if_pos q,if_pos q]
   exact ⟨by simp [h],au.cons hv k2⟩
  ·rw [if_neg q,if_neg q]
   obtain ⟨i1,i2⟩:=QM hv h k2
   exact ⟨by simp [i1],au.cons k1 i2⟩
theorem P0 (g:Good G k X) {o value:Expr} {f:Str} {ca cv:E} {xJ:Pos} (hC:∀ c,Cls X.K (G.cl c)) (hf:∀ c,NoAttr X.K (G.cl c) f) (ha:PE X o (tE G M W ca)) (hv:PE X value (tE G M W cv)) (hs:swapsWith value (some (.Attribute o f xJ)) pos.line X.env=pure false) :
  PS X (.Assign [.Attribute o f xJ] value pos) (tC G M W (.fset ca f cv)):=(ps_fld ha hv hs).imp fun D σ H ⟨ρ,η,S,s,r,h⟩=>⟨ρ,η,S,s,r,by
 simp only [aP] at h
 refine (PQ.out s r h).mono fun ρ1 H1 y S1 st s1 h1 v hv=>⟨ρ1,η,S1,s1,r.step st,(PQ.out s1 (r.step st) h1).mono fun ρ2 H2 x S2 st2 s2 h2 w hw=> ?_⟩
 cases x with
 | ref n=>
  simp only at h2
  split at h2
  ·rename_i c ns vs eo
   split at h2
   ·rename_i hl
    obtain ⟨a,rfl,hr,dx,fs,e1,e2,e3⟩:=s2.ref hw eo
    obtain ⟨p1,p2⟩:=QM (f:=f) (hv.step st2) e2 e3
    have nf:∀ od u,H2 a≠some (.frz od u):=fun od u z=>by rw [e1] at z;cases z
    obtain ⟨lN,s3⟩:=bf.put (ho:=.ins (G.cl c) dx (putF f v fs)) (o2:=.ins c (Fy ns vs f y).1 (Fy ns vs f y).2) s2 hr nf (by
     have gG:Step ρ2 H2 ρ2 (upd H2 a (.ins (G.cl c) dx (putF f v fs))):=⟨List.prefix_refl _,fun b o hb hn=>by
      rw [upd_ne fun e=>hn (by subst e;exact List.mem_of_getElem? hr)];exact hb,fun b hb=>.inl hb,oU nf⟩
     exact ⟨dx,_,upd_same,p1,au.step gG _ _ p2⟩)
    refine ⟨a,G.cl c,dx,fs,rfl,e1,hC c,hf c,?_,h2 ρ2 _ σ lN s3 ((r.step st).step (st2.trans lN))⟩
    rw [← e2,List.length_map] at hl;exact hl
   ·exact h2.elim
  ·exact h2.elim
 | _=>exact h2.elim⟩
theorem aem (g:Good G k X) {i:Nat} {x:Str} {op:Operator} {xJ:Pos} (hop:op=.Add∨op=.Sub) (hi:X.N[i]? =some x) (hx:Loc X.env.scope x) (he:PE X e (tE G M W ce)) (hf:X.fn x=true∨X.env.scope.names.lookup x=some .local:=by first | exact .inl rfl | exact .inr rfl | assumption) :
  PS X (.AugAssign (.Name x xJ) op e pos) (tC G M W (.aug i op ce)):=by
 rcases hop with rfl | rfl
 ·refine (ps_aug g.nd hi hx he ip_add hf).imp fun D σ H ⟨ρ,η,S,s,r,h⟩=> ?_
  simp only [aP] at h
  split at h
  ·rename_i x ex
   obtain ⟨v,e1,hv⟩:=r.at_ i x ex
   refine ⟨v,e1,ρ,η,S,s,r,(PQ.out s r h).mono fun ρ1 H1 y S1 st s1 h1 w hw=> ?_⟩
   cases x with
   | int a=>
    cases y with
    | int b=>
     simp only [VR] at hv hw
     subst hv hw
     exact ⟨a,b,rfl,rfl,h1 ρ1 H1 _ (Step.refl _ _) s1 ((r.step st).set i (by simp only [VR]))⟩
    | _=>exact h1.elim
   | _=>exact h1.elim
  ·exact h.elim
 ·refine (ps_aug g.nd hi hx he ip_sub hf).imp fun D σ H ⟨ρ,η,S,s,r,h⟩=> ?_
  simp only [aP] at h
  split at h
  ·rename_i x ex
   obtain ⟨v,e1,hv⟩:=r.at_ i x ex
   refine ⟨v,e1,ρ,η,S,s,r,(PQ.out s r h).mono fun ρ1 H1 y S1 st s1 h1 w hw=> ?_⟩
   cases x with
   | int a=>
    cases y with
    | int b=>
     simp only [VR] at hv hw
     subst hv hw
     exact ⟨a,b,rfl,rfl,h1 ρ1 H1 _ (Step.refl _ _) s1 ((r.step st).set i (by simp only [VR]))⟩
    | _=>exact h1.elim
   | _=>exact h1.elim
  ·exact h.elim
end
end Oz
namespace Oz
open PySem L2 PyProof.Rows
section
variable {G:bB} {ρ τ:List Addr} {H H':Hp} {S T:Hs}
mutual
theorem VR.has:∀ (x:Vl) (v:V),VR G ρ H x v→x.lim ρ.length=true
 | .non,_,_ | .bl _,_,_ | .int _,_,_ | .str _,_,_=>by simp [Vl.lim]
 | .tup xs,v,h=>by simp only [VR] at h;obtain ⟨a,vs,_,_,h2⟩:=h;simp only [Vl.lim];exact au.has xs vs h2
 | .lst xs,v,h=>by simp only [VR] at h;obtain ⟨a,vs,_,_,h2⟩:=h;simp only [Vl.lim];exact au.has xs vs h2
 | .dct ks xs,v,h=>by simp only [VR] at h;obtain ⟨a,vs,_,_,_,_,h2⟩:=h;simp only [Vl.lim];exact au.has xs _ h2
 | .obj c ns xs,v,h=>by simp only [VR] at h;obtain ⟨a,dx,vs,_,_,_,_,h2⟩:=h;simp only [Vl.lim];exact au.has xs _ h2
 | .err c ns xs,v,h=>by
  simp only [VR] at h
  obtain ⟨a,d,_,_,⟨_,rfl⟩ | ⟨dd,fs,_,_,_,_,h2⟩⟩:=h
  ·simp [Vl.lim,aV]
  ·simp only [Vl.lim];exact au.has xs _ h2
 | .ref r,v,h=>by simp only [VR] at h;obtain ⟨a,_,h2⟩:=h;simp only [Vl.lim,decide_eq_true_eq];exact aJ h2
theorem au.has:∀ (xs:List Vl) (vs:List V),au G ρ H xs vs→aV ρ.length xs=true
 | [],_,_=>by simp [aV]
 | x::xs,vs,h=>by
  simp only [au] at h
  obtain ⟨v,r,_,h1,h2⟩:=h
  simp only [aV,Bool.and_eq_true]
  exact ⟨VR.has x v h1,au.has xs r h2⟩
end
mutual
theorem VR.less:∀ (x:Vl) (v:V),VR G (ρ++τ) H x v→x.lim ρ.length=true→VR G ρ H x v
 | .non,_,h,_ | .bl _,_,h,_ | .int _,_,h,_ | .str _,_,h,_=>by simpa only [VR] using h
 | .tup xs,v,h,l=>by
  simp only [VR] at h ⊢
  simp only [Vl.lim] at l
  obtain ⟨a,vs,e,h1,h2⟩:=h
  exact ⟨a,vs,e,h1.imp (fun q=>⟨q.1,fun z=>q.2 (List.mem_append_left _ z)⟩) id,au.less xs vs h2 l⟩
 | .lst xs,v,h,l=>by
  simp only [VR] at h ⊢
  simp only [Vl.lim] at l
  obtain ⟨a,vs,e,h1,h2⟩:=h
  exact ⟨a,vs,e,⟨h1.1,fun z=>h1.2 (List.mem_append_left _ z)⟩,au.less xs vs h2 l⟩
 | .dct ks xs,v,h,l=>by
  simp only [VR] at h ⊢
  simp only [Vl.lim] at l
  obtain ⟨a,vs,e,h1,n,h2,h3⟩:=h
  exact ⟨a,vs,e,h1,fun z=>n (List.mem_append_left _ z),h2,au.less xs _ h3 l⟩
 | .obj c ns xs,v,h,l=>by
  simp only [VR] at h ⊢
  simp only [Vl.lim] at l
  obtain ⟨a,dx,vs,e,h1,n,h2,h3⟩:=h
  exact ⟨a,dx,vs,e,h1,fun z=>n (List.mem_append_left _ z),h2,au.less xs _ h3 l⟩
 | .err c ns xs,v,h,l=>by
  simp only [VR] at h ⊢
  simp only [Vl.lim] at l
  obtain ⟨a,d,e,hg,q⟩:=h
  exact ⟨a,d,e,hg,q.imp id fun ⟨dd,fs,e1,h1,n,h2,h3⟩=>⟨dd,fs,e1,h1,fun z=>n (List.mem_append_left _ z),h2,au.less xs _ h3 l⟩⟩
 | .ref r,v,h,l=>by
  simp only [VR] at h ⊢
  simp only [Vl.lim,decide_eq_true_eq] at l
  obtain ⟨a,e,h1⟩:=h
  exact ⟨a,e,by rw [← h1,List.getElem?_append_left l]⟩
theorem au.less:∀ (xs:List Vl) (vs:List V),au G (ρ++τ) H xs vs→aV ρ.length xs=true→au G ρ H xs vs
 | [],_,h,_=>by simpa only [au] using h
 | x::xs,vs,h,l=>by
  simp only [au] at h ⊢
  simp only [aV,Bool.and_eq_true] at l
  obtain ⟨v,r,e,h1,h2⟩:=h
  exact ⟨v,r,e,VR.less x v h1 l.1,au.less xs r h2 l.2⟩
end
theorem OR.has {a:Addr} {o:Ob} (h:OR G ρ H a o):o.lim ρ.length=true:=by
 cases o with
 | lst xs=>obtain ⟨vs,_,h2⟩:=h;exact au.has _ _ h2
 | dct ks xs=>obtain ⟨vs,_,_,h2⟩:=h;exact au.has _ _ h2
 | ins c ns xs=>obtain ⟨dx,vs,_,_,h2⟩:=h;exact au.has _ _ h2
 | zU ks xs=>obtain ⟨vs,od,_,_,h2⟩:=h;exact au.has _ _ h2
theorem OR.less {a:Addr} {o:Ob} (h:OR G (ρ++τ) H a o) (l:o.lim ρ.length=true):OR G ρ H a o:=by
 cases o with
 | lst xs=>obtain ⟨vs,h1,h2⟩:=h;exact ⟨vs,h1,au.less _ _ h2 l⟩
 | dct ks xs=>obtain ⟨vs,h1,h2,h3⟩:=h;exact ⟨vs,h1,h2,au.less _ _ h3 l⟩
 | ins c ns xs=>obtain ⟨dx,vs,h1,h2,h3⟩:=h;exact ⟨dx,vs,h1,h2,au.less _ _ h3 l⟩
 | zU ks xs=>obtain ⟨vs,od,h1,h2,h3⟩:=h;exact ⟨vs,od,h1,h2,au.less _ _ h3 l⟩
theorem bf.cut (s:bf G (ρ++τ) H (S++T)) (hl:ρ.length=S.length) (hS:∀ (r:Nat) (o:Ob),S[r]? =some o→o.lim S.length=true):bf G ρ H S where
 len:=hl
 nd:=(List.nodup_append.mp s.nd).1
 at_:=fun r o a h1 h2=>by
  refine OR.less (s.at_ r o a ?_ ?_) (by rw [hl];exact hS r o h1)
  ·rw [List.getElem?_append_left (aJ h1)];exact h1
  ·rw [List.getElem?_append_left (aJ h2)];exact h2
theorem bf.new {p:Addr} {u:HO} {o:Ob} (s:bf G ρ H S) (hp:H p=none) (ho:OR G (ρ++[p]) (upd H p u) p o):bf G (ρ++[p]) (upd H p u) (S++[o]):=by
 have sm:Same H (upd H p u):=fK hp
 have n:p∉ρ:=s.free hp
 have bU:Step ρ H (ρ++[p]) (upd H p u):=(bu sm).one hp
 refine ⟨by simp [s.len],?_,fun r o' a h1 h2=> ?_⟩
 ·rw [List.nodup_append]
  exact ⟨s.nd,by simp,fun x hx y hy=>by
   have:y=p:=by simpa using hy
   subst this
   exact fun e=>n (e ▸ hx)⟩
 ·by_cases hr:r<S.length
  ·rw [List.getElem?_append_left hr] at h1
   rw [List.getElem?_append_left (by rw [s.len];exact hr)] at h2
   exact (s.at_ r o' a h1 h2).same bU sm
  ·have TV:r=S.length:=by
    have:=aJ h1
    simp at this
    omega
   subst TV
   have e1:o'=o:=by simpa using h1.symm
   have e2:a=p:=by rw [← s.len] at h2;simpa using h2.symm
   subst e1 e2
   exact ho
theorem bf.Ys (s:bf G ρ H S) (r:Nat) (o:Ob) (h:S[r]? =some o):o.lim S.length=true:=by
 have hr:r<ρ.length:=by rw [s.len];exact aJ h
 rw [← s.len]
 exact (s.at_ r o ρ[r] h (List.getElem?_eq_getElem hr)).has
end
section
variable {G:bB} {M:aF} {W:WX} {X:Cx} {k:Nat}
abbrev WF:WX:=fun _ _ _ _=>False
theorem Good.blk [bT G X] (g:Good G k X) (s:Shared) (H:Hp) (scope:Scope) (ce:Env) (fp:List Addr):Good G k (X.blk s H scope ce fp):=⟨g.K,g.nd,g.room,g.Mf,fun e h=>by rw [bT.er X] at h;cases h⟩
theorem zE {σ:L2.St} {i:Nat}:∀ {vs:List Nat},(wipe σ vs)[i]? =if i∈vs then σ[i]?.map (fun _=>none) else σ[i]?
 | []=>by simp [wipe]
 | v::vs=>by
  unfold wipe
  rw [List.getElem?_set,wipe_length]
  by_cases e:v=i
  ·subst e
   rw [if_pos rfl,if_pos List.mem_cons_self]
   by_cases l:v<σ.length
   ·rw [if_pos l,List.getElem?_eq_getElem l];rfl
   ·rw [if_neg l,List.getElem?_eq_none (by omega)];rfl
  ·rw [if_neg e,zE]
   by_cases m:i∈vs
   ·rw [if_pos m,if_pos (List.mem_cons_of_mem _ m)]
   ·rw [if_neg m,if_neg (by simp [m,Ne.symm e])]
theorem xX {σ σ':L2.St} {is vs:List Nat} (h:Off is (wipe σ vs) σ') (hs:∀ i∈is,i∈vs):wipe σ' vs=wipe σ vs:=by
 apply List.ext_getElem?
 intro i
 rw [zE,zE]
 by_cases m:i∈vs
 ·rw [if_pos m,if_pos m]
  have hl:σ'.length=σ.length:=h.1.trans (wipe_length σ vs)
  by_cases l:i<σ.length
  ·rw [List.getElem?_eq_getElem l,List.getElem?_eq_getElem (by omega)];rfl
  ·rw [List.getElem?_eq_none (by omega),List.getElem?_eq_none (by omega)]
 ·rw [if_neg m,if_neg m,h.2 i fun z=>m (hs i z),zE,if_neg m]
theorem ER.wipe {ρ:List Addr} {H:Hp} {η:Sg} {σ:L2.St} (h:ER G ρ H η σ):∀ (vs:List Nat),ER G ρ H (bR η vs) (wipe σ vs)
 | []=>h
 | v::vs=>(h.wipe vs).ajL v
def yc (G:bB) (M:aF) (W:WX) (c:Es):TT:=fun σ H Q=>∃ ρ η S,bf G ρ H S∧ER G ρ H η σ∧PR G W σ ρ H (dB M c η S) (fun _ H' b _=>Q b H')
theorem _root_.L2.PTs.imp {X:Cx} {e:List Expr} {t t':TT} (h:PTs X e t) (k:∀ σ H Q,t' σ H Q→t σ H Q):PTs X e t':=⟨fun pins s σ H Q I q=>h.run pins s σ H Q I (k σ H Q q)⟩
theorem gD:PTs X [] (yc G M W .nil):=pts_nil.imp fun σ H Q ⟨ρ,η,S,s,r,h⟩=>by
 simp only [dB] at h
 exact h.here s
theorem aiB {e:Expr} {c:E} (h:PT X e (tQ G M W c)):PTs X [e] (yc G M W (.cons c .nil)):=(pts_one h).imp fun σ H Q ⟨ρ,η,S,s,r,h⟩=>⟨ρ,η,S,s,r,by
 simp only [dB] at h
 refine (PR.bind h).mono fun ρ1 H1 x S1 st s1 h1=> ?_
 cases x with
 | bl b=>cases b<;>exact ⟨_,rfl,h1.here s1⟩
 | _=>exact h1.elim⟩
theorem oA {n:Nat} {y:Vl}:∀ {xs:List Vl},aV n xs=true→y.lim n=true→aV n (xs++[y])=true
 | [],_,h=>by simp [aV,h]
 | x::xs,h,k=>by
  simp only [aV,Bool.and_eq_true] at h
  show (Vl.lim n x&&aV n (xs++[y]))=true
  rw [h.1,oA h.2 k];rfl
theorem oX {α:Type} {xs ys:List α} (h:xs<+:ys) (l:ys.length=xs.length):ys=xs:=(List.IsPrefix.eq_of_length h l.symm).symm
theorem ae4 {own:List Nat} {ce:E} {t:Tg} {qY:Src} {ci:Es} (ht:∀ i∈t.slots,i∈own) (σ:L2.St) (H:Hp) (Q:VK) (h:tF G M W (.comp own ce t qY ci) σ H Q):tLc (tS G M W qY) (tG G t) (yc G M WF ci) (tE G M WF ce) own σ H Q:=by
 obtain ⟨ρ,η,S,s,r,h⟩:=h
 refine ⟨ρ,η,S,s,r,?_⟩
 simp only [d9] at h
 refine (PR.bind h).mono fun ρ1 H1 p S1 st s1 h1 J jw D hD=> ?_
 obtain ⟨lk,xs⟩:=p
 simp only at h1 jw
 have hD0:H D=none:=none_of s s1 st hD
 have hDn:D∉ρ1:=s1.free hD
 have BK:=s1.len
 -- the start
 have sm:Same H1 (upd H1 D (.lst [])):=fK hD
 have stD:Step ρ1 H1 (ρ1++[D]) (upd H1 D (.lst [])):=(bu sm).one hD
 have SM:bf G (ρ1++[D]) (upd H1 D (.lst [])) (S1++[.lst []]):=s1.new hD ⟨[],upd_same,au.nil⟩
 have rD:(ρ1++[D])[S1.length]? =some D:=by rw [← BK];simp
 generalize Hr:(fun (x:Vl) (S2:Hs)=>match aZ t x (bR η own) with
   | none=>(Res.bad:Res (Option Vl))
   | some η1=>(dB M ci η1 S2).bind fun b S3=>if b=true then (ev M ce η1 S3).bind fun y S4=>.ok (some y) S4 else .ok none S3)=step at h1
 refine ⟨fun i m H'=>m=xs.length - i∧i≤xs.length∧∃ aQ,Step ρ1 H1 (ρ1++[D]) H'∧bf G (ρ1++[D]) H' (S1++[.lst aQ])∧PR G W σ ρ1 H1 ((gH step lk (xs.drop i) aQ S1).bind fun ys S2=>.ok (.lst ys) S2) (Cd G H Q)∧aV S1.length aQ=true,⟨xs.length,by simp,Nat.zero_le _,[],stD,SM,by simpa using h1,by simp [aV]⟩,?_⟩
 rintro i m H' ⟨rfl,hi,aQ,gG,s',h',la⟩
 by_cases hl:i<xs.length
 ·refine .inr ?_
  rw [List.drop_eq_getElem_cons hl] at h'
  simp only [gH] at h'
  split at h'
  ·rename_i l'
   have l2:cP lk (S1++[.lst aQ]):=fun p hp=>by
    have e:=l' p hp
    rw [List.getElem?_append_left (aJ e)];exact e
   obtain ⟨hgo,hy⟩:=jw.go _ H' _ i xs[i] (Step.x gG) s' l2 (by simp [hl])
   refine ⟨hgo,fun H3=>∃ aQ,Step ρ1 H1 (ρ1++[D]) H3∧bf G (ρ1++[D]) H3 (S1++[.lst aQ])∧PR G W σ ρ1 H1 ((gH step lk (xs.drop (i+1)) aQ S1).bind fun ys S2=>.ok (.lst ys) S2) (Cd G H Q)∧aV S1.length aQ=true,fun H3 a=>⟨xs.length - (i+1),by omega,rfl,by omega,a⟩,fun v H3 y=> ?_⟩
   obtain ⟨sm3,hv⟩:=hy v H3 y
   have lN:Step (ρ1++[D]) H' (ρ1++[D]) H3:=bu sm3
   have s3:=s'.same sm3
   have Z3:step xs[i] (S1++[.lst aQ])=match aZ t xs[i] (bR η own) with
     | none=>(Res.bad:Res (Option Vl))
     | some η1=>(dB M ci η1 (S1++[.lst aQ])).bind fun b S3=>if b=true then (ev M ce η1 S3).bind fun y S4=>.ok (some y) S4 else .ok none S3:=by rw [← Hr]
   cases eb:aZ t xs[i] (bR η own) with
   | none=>rw [Z3,eb] at h';exact h'.elim
   | some η2=>
    rw [Z3,eb] at h'
    simp only at h'
    have er3:ER G (ρ1++[D]) H3 (bR η own) (wipe σ own):=(((r.step st).step gG).step lN).wipe own
    refine ⟨ρ1++[D],S1++[.lst aQ],bR η own,xs[i],η2,s3,er3,hv,eb,fun σ4 of4 r4=>⟨xX of4 ht,ρ1++[D],η2,S1++[.lst aQ],s3,r4,?_⟩⟩
    cases ea:dB M ci η2 (S1++[.lst aQ]) with
    | bad=>rw [ea] at h';exact h'.elim
    | exc x S3=>rw [ea] at h';exact h'.elim
    | ok b S3=>
     rw [ea] at h'
     simp only [Res.bind] at h'
     refine fun ρ5 H5 st5 s5=> ?_
     cases b with
     | false=>
      simp only [Bool.false_eq_true,if_false] at h' ⊢
      by_cases c5:S3=S1++[.lst aQ]∧aQ.length<sizeLine
      ·rw [if_pos c5] at h'
       obtain ⟨rfl,_⟩:=c5
       have e5:ρ5=ρ1++[D]:=oX st5.pre (by rw [s5.len,← s3.len])
       subst e5
       exact ⟨aQ,(gG.trans lN).trans st5,s5,h',la⟩
      ·rw [if_neg c5] at h';exact h'.elim
     | true=>
      simp only [if_true] at h' ⊢
      refine ⟨ρ5,η2,S3,s5,r4.step st5,?_⟩
      cases ev6:ev M ce η2 S3 with
      | bad=>rw [ev6] at h';exact h'.elim
      | exc x S4=>rw [ev6] at h';exact h'.elim
      | ok y S4=>
       rw [ev6] at h'
       simp only [Res.bind] at h'
       refine fun ρ7 H7 st7 s7 w hw=> ?_
       by_cases c7:S4=S1++[.lst aQ]∧aQ.length<sizeLine
       ·rw [if_pos c7] at h'
        obtain ⟨rfl,hz⟩:=c7
        have e7:ρ7=ρ1++[D]:=oX (st5.trans st7).pre (by rw [s7.len,← s3.len])
        subst e7
        by_cases ly:y.lim S1.length=true
        ·rw [if_pos ly] at h'
         obtain ⟨vs,g1,g2⟩:=s7.at_ S1.length (.lst aQ) D (by simp) rD
         have nf:∀ od u,H7 D≠some (.frz od u):=fun od u z=>by rw [g1] at z;cases z
         have stE:Step (ρ1++[D]) H7 (ρ1++[D]) (upd H7 D (.lst (vs++[w]))):=⟨List.prefix_refl _,fun b o hb hn=>by
          rw [upd_ne fun e=>hn (by subst e;simp)];exact hb,fun b hb=>.inl hb,oU nf⟩
         obtain ⟨st8,s8⟩:=bf.put (ho:=.lst (vs++[w])) (o2:=.lst (aQ++[y])) s7 rD nf ⟨vs++[w],upd_same,au.step stE _ _ (g2.append (au.cons hw au.nil))⟩
         refine ⟨vs,g1,by rw [← g2.length];exact hz,aQ++[y],(((gG.trans lN).trans st5).trans st7).trans st8,by simpa using s8,h',?_⟩
         exact oA la ly
        ·rw [if_neg ly] at h';exact h'.elim
       ·rw [if_neg c7] at h';exact h'.elim
  ·exact h'.elim
 ·have e:i=xs.length:=by omega
  subst e
  rw [List.drop_length] at h'
  simp only [gH] at h'
  split at h'
  ·rename_i l'
   have l2:cP lk (S1++[.lst aQ]):=fun p hp=>by
    have e:=l' p hp
    rw [List.getElem?_append_left (aJ e)];exact e
   refine .inl ⟨jw.stop _ H' _ (Step.x gG) s' l2,?_⟩
   have sc:bf G ρ1 H' S1:=s'.cut BK s1.Ys
   have Tr:Step ρ1 H1 ρ1 H':=⟨List.prefix_refl _,gG.keep,fun a ha=>.inl ha,gG.fz⟩
   have fin:Cd G H Q ρ1 H' (.lst aQ) S1:=h' ρ1 H' Tr sc
   exact fin D hD0 hDn (OR.less (s'.at_ S1.length (.lst aQ) D (by simp) rD) (by rw [BK];exact la)) s'
  ·exact h'.elim
section
variable {jr tg iter:Expr} {lM:List Expr} {scope:Scope} {own:List (Str × Nat)} {pos:Pos} {ce:E} {t:Tg} {qY:Src} {ci:Es}
theorem jh [bT G X] (g:Good G k X) (yM:∀ i∈t.slots,i∈own.map (·.2)) (hi:PI X tg iter (tS G M W qY)) (ok:BlkOk X.N X.env.scope scope own)
  (hg:∀ (s:Shared) (H:Hp) (C:Addr) (cl:List (Str × Addr)) (fp:List Addr),PG (X.blk s H scope (compEnvC scope cl C X.env) fp) tg (tG G t)) (ht:∀ (s:Shared) (H:Hp) (C:Addr) (cl:List (Str × Addr)) (fp:List Addr),PTs (X.blk s H scope (compEnvC scope cl C X.env) fp) lM (yc G M WF ci))
  (he:∀ (s:Shared) (H:Hp) (C:Addr) (cl:List (Str × Addr)) (fp:List Addr),PE (X.blk s H scope (compEnvC scope cl C X.env) fp) jr (tE G M WF ce)) (hs:∀ x,foldedSetIterable iter X.env x=pure x:=by intro _;rfl) :
  PE X (.ListComp jr [⟨tg,iter,lM,0⟩] scope pos) (tF G M W (.comp (own.map (·.2)) ce t qY ci)):=(pe_lc g.calm g.nd hi ok hg ht he hs).imp fun σ H Q h=>ae4 yM σ H Q h
theorem Bc [bT G X] (g:Good G k X) {i:Nat} {y:Str} {py aaU:Pos} (hy:X.N[i]? =some y) (hyl:X.env.scope.names.lookup y=some .local)
  (hsw:swapsWith (.ListComp jr [⟨tg,iter,lM,0⟩] scope pos) (some (.Name y py)) aaU.line X.env=pure true) (yM:∀ i∈t.slots,i∈own.map (·.2)) (hi:PI X tg iter (tS G M W qY)) (ok:BlkOk X.N X.env.scope scope own)
  (hg:∀ (s:Shared) (H:Hp) (C:Addr) (cl:List (Str × Addr)) (fp:List Addr),PG (X.blk s H scope (compEnvC scope cl C X.env) fp) tg (tG G t)) (ht:∀ (s:Shared) (H:Hp) (C:Addr) (cl:List (Str × Addr)) (fp:List Addr),PTs (X.blk s H scope (compEnvC scope cl C X.env) fp) lM (yc G M WF ci))
  (he:∀ (s:Shared) (H:Hp) (C:Addr) (cl:List (Str × Addr)) (fp:List Addr),PE (X.blk s H scope (compEnvC scope cl C X.env) fp) jr (tE G M WF ce)) (hs:∀ x,foldedSetIterable iter X.env x=pure x:=by intro _;rfl) (fr:Bool) :
  PS X (.Assign [.Name y py] (.ListComp jr [⟨tg,iter,lM,0⟩] scope pos) aaU) (tC G M W (.asg (.nm i) (if fr then .inl (.comp (own.map (·.2)) ce t qY ci) else .Cz (.comp (own.map (·.2)) ce t qY ci)))):=(ps_setLc g.calm g.nd hy hyl hsw hi ok hg ht he hs).imp fun D σ H ⟨ρ,η,S,s,r,h⟩=>by
 refine ae4 yM σ H _ ⟨ρ,η,S,s,r,?_⟩
 cases fr with
 | true=>
  simp only [if_true,aP,ev,aZ] at h
  cases eo:d9 M (.comp (own.map (·.2)) ce t qY ci) η S with
  | ok o S1=>
   rw [eo] at h
   exact fun ρ1 H1 st s1 p hp hn ho hs=>h ρ1 H1 _ st s1 ((r.step st).set i (ho.inl hn))
  | exc x S1=>rw [eo] at h;exact fun ρ1 H1 st s1=>h ρ1 H1 σ st s1 (r.step st)
  | bad=>rw [eo] at h;exact h
 | false=>
  simp only [Bool.false_eq_true,if_false,aP,ev,aZ] at h
  cases eo:d9 M (.comp (own.map (·.2)) ce t qY ci) η S with
  | ok o S1=>
   rw [eo] at h
   exact fun ρ1 H1 st s1 p hp hn ho hs=>h (ρ1++[p]) H1 _ (st.one hp) hs ((r.step (st.one hp)).set i (by simp only [VR];exact ⟨p,rfl,by rw [← s1.len];simp⟩))
  | exc x S1=>rw [eo] at h;exact fun ρ1 H1 st s1=>h ρ1 H1 σ st s1 (r.step st)
  | bad=>rw [eo] at h;exact h
end
end
end Oz
namespace Oz
open PySem L2 PyProof.Rows PySem.Froz
def SetT (P:Program) (w:World) (h:Heap) (a:Addr) (l:List Str):Prop:=
 ∃ D:SD,h.get? a=some (sObj "set" D)∧TxOk P w D l∧(D.1.toList.map fun e=>strOf e.2).Perm l∧(∀ e∈D.1.toList,∃ x t,e.2=.str x t)∧Ris D.2.2.place.toList∧(w.params.followText "set-order"=true∨D.2.2.led=true)
theorem SetT.at {P:Program} {w:World} {h h':Heap} {a:Addr} {l:List Str} (R:SetT P w h a l) (k:∀ o,h.get? a=some o→h'.get? a=some o):SetT P w h' a l:=by
 obtain ⟨D,ho,r⟩:=R
 exact ⟨D,k _ ho,r⟩
def akK (k:Str) (l:List Str):List Str:=if k∈l then l else k::l
abbrev ald (w:World):Obj:={ cls:=.type "set",dict:=none,data:=.set #[] 0 (.fresh 0 0 (!w.params.followText "set-order")) }
section
variable {P:Program} {w:World} {A:Around} {E:Value→Shared→Prop} {s:Shared} {a:Addr} {l:List Str}
theorem SetT.typeIs (R:SetT P w s.heap a l):s.TypeIs (.ref a) "set":=by
 obtain ⟨D,ho,_⟩:=R
 exact ⟨_,ho,rfl⟩
def Ny:List Str→List Str→List Str
 | [],l=>l
 | z::zs,l=>Ny zs (akK z l)
set_option maxHeartbeats 3200000 in
end
end Oz
namespace Oz
open PySem L2 PyProof.Rows PySem.Froz
def SetTO (P:Program) (w:World) (a:Addr) (l:List Str):HO:=.ext fun h=>SetT P w h a l
section
variable {X:Cx}
def amw (X:Cx):List V→Hp→VK→Prop:=fun xs H Q=>∃ (b:Addr) (zs:List Str),xs=[.ref b]∧SqL X.K H b (zs.map V.str)∧zs.length+1<scanBound∧∀ p,H p=none→Q (.ref p) (upd H p (SetTO X.prog X.w p (Ny zs [])))
def rSortT (X:Cx):List V→Hp→VK→Prop:=fun xs H Q=>∃ (a:Addr) (l:List Str),xs=[.ref a]∧H a=some (SetTO X.prog X.w a l)∧l.length<64∧∀ ys p,ys.Perm l→sortedS ys=true→H p=none→Q (.ref p) (upd H p (.lst (ys.map V.str)))
end
section
variable {X:Cx} {jr:Expr} {gens:List Comprehension} {scope:Scope} {pos ip:Pos} {j:Nat} {tg:Expr} {lM:List Expr} {it:Addr} {aQ:Value} {J:It} {fp:List Addr} {tn:Nat→Heap→Prop} {pins:List (Addr × Obj)} {s:Shared} {σ:L2.St} {H:Hp} {g:TG} {tt:TT}
end
section
variable {G:bB} {ρ ρ':List Addr} {H H':Hp} {S:Hs} {D:Addr} {φ:Heap→Prop} {o:HO}
end
section
variable {G:bB} {M:aF} {W:WX} {X:Cx} {k:Nat} {jr tg iter tg1 ajO:Expr} {lM RN:List Expr} {scope:Scope} {own:List (Str × Nat)} {Qm:List Nat} {pos:Pos} {ce:E} {t t1:Tg} {qY RJ:Src} {ci ci1:Es}
noncomputable def afb (M:aF) (ce:E) (Qm:List Nat) (t1:Tg) (ci1:Es) (η1:Sg) (y:Vl) (S5:Hs):Res (List Str):=match aZ t1 y (bR η1 Qm) with
 | none=>.bad
 | some η2=>(dB M ci1 η2 S5).bind fun b1 S6=>if b1=true then (ev M ce η2 S6).bind fun y S7=>match y with
   | .str z=>.ok [z] S7
   | _=>.bad
  else .ok [] S6
noncomputable def aer (M:aF) (own:List Nat) (ce:E) (t:Tg) (ci:Es) (Qm:List Nat) (t1:Tg) (RJ:Src) (ci1:Es) (η:Sg) (x:Vl) (S2:Hs):Res (List Str):=match aZ t x (bR η own) with
 | none=>.bad
 | some η1=>(dB M ci η1 S2).bind fun b S3=>if b=true then (pH M RJ η1 S3).bind fun p1 S4=>Ce (afb M ce Qm t1 ci1 η1) p1.1 p1.2 S4
  else .ok [] S3
def tSC (G:bB) (M:aF) (W:WX) (P:Program) (w:World) (own:List Nat) (ce:E) (t:Tg) (qY:Src) (ci:Es) (Qm:List Nat) (t1:Tg) (RJ:Src) (ci1:Es):TE:=fun σ H Q=>∃ ρ η S,bf G ρ H S∧ER G ρ H η σ∧
 PR G W σ ρ H ((pH M qY η S).bind fun p S1=>(Ce (aer M own ce t ci Qm t1 RJ ci1 η) p.1 p.2 S1).bind fun zs S2=>.ok zs S2) fun ρ' H' zs _=>zs.length<64∧∀ p,H p=none→p∉ρ'→H' p=some (SetTO P w p (Ny zs []))→Q (.ref p) H'
end
end Oz
namespace Oz
open PySem L2 PyProof.Rows PySem.Froz
section
variable {G:bB} {M:aF} {W:WX} {X:Cx} {k:Nat} {jr tg iter tg1 ajO:Expr} {lM RN:List Expr} {scope:Scope} {own:List (Str × Nat)} {Qm:List Nat} {pos:Pos} {ce:E} {t t1:Tg} {qY RJ:Src} {ci ci1:Es}
end
end Oz
namespace Oz
open PySem L2 PyProof.Rows PySem.Froz PySem.Spec
def Df (a b:Str):Prop:=Ka b a=false
theorem vK {a b:Str}:Df a b↔¬ b.cps.toList<a.cps.toList:=by unfold Df Ka;rw [decide_eq_false_iff_not]
theorem yx {a b:Str} (h:Df a b) (k:Df b a):a=b:=by
 rw [vK] at h k
 have e:a.cps.toList=b.cps.toList:=List.le_antisymm h k
 obtain ⟨x⟩:=a
 obtain ⟨y⟩:=b
 congr 1
 exact Array.toList_inj.mp e
theorem La {a b c:Str} (h:Df a b) (k:Df b c):Df a c:=by
 rw [vK] at *
 exact List.le_trans h k
theorem Jl (a b:Str):Df a b∨Df b a:=by
 rw [vK,vK]
 exact List.le_total _ _
theorem HY (x:Str):∀ ys:List Str,(rN x ys).Perm (x::ys)
 | []=>.refl _
 | y::ys=>by
  unfold rN
  split
  ·exact ((HY x ys).cons y).trans (.swap x y ys)
  ·exact .refl _
theorem Ao:∀ xs:List Str,(dN xs).Perm xs
 | []=>.refl _
 | x::xs=>(HY x _).trans ((Ao xs).cons x)
theorem abh (x:Str):∀ ys:List Str,ys.Pairwise Df→(rN x ys).Pairwise Df
 | [],_=>by simp [rN]
 | y::ys,h=>by
  obtain ⟨h1,h2⟩:=List.pairwise_cons.mp h
  unfold rN
  split
  ·rename_i c
   refine List.pairwise_cons.mpr ⟨fun z hz=> ?_,abh x ys h2⟩
   rcases List.mem_cons.mp ((HY x ys).mem_iff.mp hz) with e | e
   ·subst e
    rcases Jl y z with q | q
    ·exact q
    ·unfold Df at q;rw [c] at q;cases q
   ·exact h1 z e
  ·rename_i c
   have c':Df x y:=by unfold Df;simpa using c
   exact List.pairwise_cons.mpr ⟨fun z hz=>(List.mem_cons.mp hz).elim (fun e=>e ▸ c') fun e=>La c' (h1 z e),h⟩
theorem Do:∀ xs:List Str,(dN xs).Pairwise Df
 | []=>List.Pairwise.nil
 | x::xs=>abh x _ (Do xs)
theorem Jm:∀ (p:Str) (l:List Str),risingS p l=true→(p::l).Pairwise Df
 | p,[],_=>by simp
 | p,x::r,h=>by
  have h':(!ltCps x.cps.toList p.cps.toList&&risingS x r)=true:=h
  rw [Bool.and_eq_true] at h'
  have px:Df p x:=by unfold Df Ka;rw [← ltCps_eq];simpa using h'.1
  have ih:=Jm x r h'.2
  exact List.pairwise_cons.mpr ⟨fun z hz=>(List.mem_cons.mp hz).elim (fun e=>e ▸ px) fun e=>La px ((List.pairwise_cons.mp ih).1 z e),ih⟩
theorem Y5:∀ (l:List Str),sortedS l=true→l.Pairwise Df
 | [],_=>List.Pairwise.nil
 | x::r,h=>Jm x r h
theorem Y6 {ys zs:List Str} (h:ys.Perm zs) (s:sortedS ys=true):ys=dN zs:=
 List.Perm.eq_of_pairwise (le:=Df) (fun _ _ _ _=>yx) (Y5 ys s) (Do zs) (h.trans (Ao zs).symm)
section
variable {G:bB} {M:aF} {W:WX} {X:Cx} {k:Nat} {a:Expr} {ca:E} {pos p p2 jA:Pos}
theorem insI_perm (x:Int):∀ ys:List Int,(insI x ys).Perm (x::ys)
 | []=>.refl _
 | y::ys=>by
  unfold insI
  split
  ·exact ((insI_perm x ys).cons y).trans (.swap x y ys)
  ·exact .refl _
theorem sortI_perm:∀ xs:List Int,(sortI xs).Perm xs
 | []=>.refl _
 | x::xs=>(insI_perm x _).trans ((sortI_perm xs).cons x)
theorem VG (x:Int):∀ ys:List Int,ys.Pairwise (·≤·)→(insI x ys).Pairwise (·≤·)
 | [],_=>by simp [insI]
 | y::ys,h=>by
  obtain ⟨h1,h2⟩:=List.pairwise_cons.mp h
  unfold insI
  split
  ·rename_i c
   refine List.pairwise_cons.mpr ⟨fun z hz=> ?_,VG x ys h2⟩
   rcases List.mem_cons.mp ((insI_perm x ys).mem_iff.mp hz) with e | e
   ·omega
   ·exact h1 z e
  ·rename_i c
   exact List.pairwise_cons.mpr ⟨fun z hz=>(List.mem_cons.mp hz).elim (fun e=>by omega) fun e=>by have:=h1 z e;omega,h⟩
theorem Pb:∀ xs:List Int,(sortI xs).Pairwise (·≤·)
 | []=>List.Pairwise.nil
 | x::xs=>VG x _ (Pb xs)
theorem TY {ys zs:List Int} (h:ys.Perm zs) (s:ys.Pairwise (·≤·)):ys=sortI zs:=
 List.Perm.eq_of_pairwise (le:=(·≤·)) (fun _ _ _ _ h k=>Int.le_antisymm h k) s (Pb zs) (h.trans (sortI_perm zs).symm)
theorem akc {f:Value} {R1 R2:List V→Hp→VK→Prop} (h1:CallR X f R1) (h2:CallR X f R2):CallR X f (fun xs H Q=>R1 xs H Q∨R2 xs H Q):=by
 intro pins s σ H xs us Q I r q
 rcases q with q | q
 ·exact h1 pins s σ H xs us Q I r q
 ·exact h2 pins s σ H xs us Q I r q
end
end Oz
namespace Oz
open PySem L2 PyProof.Rows PySem.Froz PySem.Spec
theorem Ov:∀ {us:List Value} {ns:List Int},us.length=ns.length→(∀ (i:Nat) (u:Value),us[i]? =some u→∃ (y:Int) (k:Tok),ns[i]? =some y∧u=.int y k)→IntsAre us ns
 | [],[],_,_=>IntsAre.nil
 | [],_::_,e,_=>absurd e (by simp)
 | _::_,[],e,_=>absurd e (by simp)
 | u::us,m::ns,e,h=>by
  have h0:=h 0 u (by simp)
  obtain ⟨y,k,e1,e2⟩:=h0
  simp only [List.getElem?_cons_zero,Option.some.injEq] at e1
  rw [e2,← e1]
  exact IntsAre.cons _ _ (Ov (Nat.succ.inj e) fun i w ew=>by
   have:=h (i+1) w (by simpa using ew)
   simpa only [List.getElem?_cons_succ] using this)
section
variable {X:Cx}
theorem Ym (hc:X.calm=true):CallR X (.builtin "sorted") (fun xs H Q=>∃ (r:Addr) (kvs:List (Key × V)) (ns:List Int),xs=[V.ref r]∧Rd H r (.dK kvs)∧kvs.map (·.1)=ns.map Sum.inl∧ns.length≤100000∧
  ∀ (ys:List Int) (p:Addr),ys.Perm ns→ys.Pairwise (·≤·)→H p=none→Q (V.ref p) (upd H p (.lst (ys.map V.int)))):=by
 intro pins s σ H xs us Q I r ⟨a,kvs,ns,e0,hd,hks,hz,q⟩
 subst e0
 obtain ⟨u,e1,rx⟩:=vals1 r
 subst e1;cases rx
 obtain ⟨z0,lo,vs,rel,dd⟩:=dk_rd I.hok hd
 have ⟨ep,hat⟩:=dd.dictAt
 have keys:vs.map (·.1)=ns.map Sum.inl:=by rw [← hks];exact rel.keys.symm
 have vl:vs.length=ns.length:=by have:=congrArg List.length keys;simpa only [List.length_map] using this
 have Uo:vs.length≤sizeLine:=Nat.le_trans (Nat.le_of_eq vl) (Nat.le_trans hz (by decide))
 apply Calls.call_function_entry kind_sorted plain_sorted entry_sorted (args_sorted1 _)
 show wpAny _ _ (Builtin.«sorted» _) _ _ _
 unfold Builtin.«sorted»
 refine wpAny_bind (m:=checkCount "sorted" 1 1 _) (wpAny_pure (wpAny_bind (PySem.W.kdu_collect (A:=X.A.in1) (PySem.W.kdl_dict (knd:=mixKind X.prog X.w) (kvs:=vs) (ep:=ep) lo) (I.ok.hd hc) hat Uo fun h1 tk aQ hk hacc=> ?_)))
 have al:aQ.toList.length=ns.length:=(Array.length_toList (xs:=aQ)).trans (hacc.1.trans vl)
 have hI:IntsAre aQ.toList ns:=Ov al fun i w ew=>by
  rw [Array.getElem?_toList] at ew
  obtain ⟨kk,x,g1,g2⟩:=hacc.2 i w ew
  have g3:(ns.map (Sum.inl:Int→Key))[i]? =some kk:=by rw [← keys,List.getElem?_map,g1];rfl
  rw [List.getElem?_map] at g3
  obtain ⟨y,g4,g5⟩:=Option.map_eq_some_iff.mp g3
  subst g5
  rcases keyIs_shape (show keyIs (Sum.inl y) w=true from g2) with ⟨i',t,ek,ev⟩ | ⟨z,t,ek,ev⟩<;>cases ek
  exact ⟨y,t,g4,ev⟩
 have J:Inv X pins σ H { s with heap:=h1,toks:=tk }:=I.kept hk
 have al2:aQ.toList.length≤sizeLine:=by rw [al];exact Nat.le_trans hz (by decide)
 refine wpAny_bind (wpAny_newList ?_ al2)
 have hL:=Heap.get?_push_size h1 (o:=seqObj "list" aQ.toList.toArray 0) rfl
 show wpAny _ _ _ _ _ { s with toks:=tk,heap:=h1.push (seqObj "list" aQ.toList.toArray 0) }
 refine wpAny_bind (wpAny_holding (wpAny_call_entry slot_list_sort ⟨_,hL,rfl⟩ entry_list_sort (SrtO.list_sort_ord (s:={ s with toks:=tk,heap:=h1.push (seqObj "list" aQ.toList.toArray 0) }) SrtO.swo_int hL al2 (fun h2=>SrtO.ints_sortable hI h2) fun out o1 o2=>⟨_,rfl,?_⟩) (args_list_sort _)))
 obtain ⟨p1,p2,p3⟩:=SrtO.ints_out hI o1 o2
 obtain ⟨e',he'⟩:=sortedHeap_at (vs:=aQ.toList) (out:=out.toArray) hL
 have hl2:((out.map SrtO.iv).map V.int).length≤sizeLine:=by
  rw [List.length_map,p2.length_eq]
  exact Nat.le_trans hz (by decide)
 have old:∀ b o,h1.get? b=some o→(sortedHeap (h1.push (seqObj "list" aQ.toList.toArray 0)) h1.objs.size aQ.toList out.toArray).get? b=some o:=fun b o eb=>by
  have lt:=Heap.lt_size eb
  rw [sortedHeap_old (Nat.ne_of_lt lt) (by rw [size_push'];exact Nat.lt_succ_of_lt lt)]
  exact Heap.get?_push_of_some _ eb
 exact wpAny_pure ⟨_,rfl,.ref h1.objs.size,upd H h1.objs.size (.lst ((out.map SrtO.iv).map V.int)),J.laid (t':=tk) old (Nat.le_refl _) (show ObjOk X.prog X.w _ _ _ (.lst ((out.map SrtO.iv).map V.int)) from ⟨hl2,out,e',vals_of_ints p1,he'⟩),rfl,q _ _ p2 p3 (J.hok.fresh (Nat.le_refl _))⟩
theorem X5 (hc:X.calm=true):CallR X (.builtin "sorted") (fun xs H Q=>∃ (r:Addr) (kvs:List (Key × V)) (ns:List Str),xs=[V.ref r]∧Rd H r (.dK kvs)∧kvs.map (·.1)=ns.map Sum.inr∧ns.length≤100000∧
  ∀ (ys:List Str) (p:Addr),ys.Perm ns→sortedS ys=true→H p=none→Q (V.ref p) (upd H p (.lst (ys.map V.str)))):=by
 intro pins s σ H xs us Q I r ⟨a,kvs,ns,e0,hd,hks,hz,q⟩
 subst e0
 obtain ⟨u,e1,rx⟩:=vals1 r
 subst e1;cases rx
 obtain ⟨z0,lo,vs,rel,dd⟩:=dk_rd I.hok hd
 have ⟨ep,hat⟩:=dd.dictAt
 have keys:vs.map (·.1)=ns.map Sum.inr:=by rw [← hks];exact rel.keys.symm
 have vl:vs.length=ns.length:=by have:=congrArg List.length keys;simpa only [List.length_map] using this
 have Uo:vs.length≤sizeLine:=Nat.le_trans (Nat.le_of_eq vl) (Nat.le_trans hz (by decide))
 apply Calls.call_function_entry kind_sorted plain_sorted entry_sorted (args_sorted1 _)
 show wpAny _ _ (Builtin.«sorted» _) _ _ _
 unfold Builtin.«sorted»
 refine wpAny_bind (m:=checkCount "sorted" 1 1 _) (wpAny_pure (wpAny_bind (PySem.W.kdu_collect (A:=X.A.in1) (PySem.W.kdl_dict (knd:=mixKind X.prog X.w) (kvs:=vs) (ep:=ep) lo) (I.ok.hd hc) hat Uo fun h1 tk aQ hk hacc=> ?_)))
 have al:aQ.toList.length=ns.length:=(Array.length_toList (xs:=aQ)).trans (hacc.1.trans vl)
 have hS:StrsAre aQ.toList ns:=strs_at al fun i w ew=>by
  rw [Array.getElem?_toList] at ew
  obtain ⟨kk,x,g1,g2⟩:=hacc.2 i w ew
  have g3:(ns.map (Sum.inr:Str→Key))[i]? =some kk:=by rw [← keys,List.getElem?_map,g1];rfl
  rw [List.getElem?_map] at g3
  obtain ⟨y,g4,g5⟩:=Option.map_eq_some_iff.mp g3
  subst g5
  rcases keyIs_shape (show keyIs (Sum.inr y) w=true from g2) with ⟨i',t,ek,ev⟩ | ⟨z,t,ek,ev⟩<;>cases ek
  exact ⟨y,t,g4,ev⟩
 have J:Inv X pins σ H { s with heap:=h1,toks:=tk }:=I.kept hk
 have al2:aQ.toList.length≤sizeLine:=by rw [al];exact Nat.le_trans hz (by decide)
 refine wpAny_bind (wpAny_newList ?_ al2)
 have hL:=Heap.get?_push_size h1 (o:=seqObj "list" aQ.toList.toArray 0) rfl
 show wpAny _ _ _ _ _ { s with toks:=tk,heap:=h1.push (seqObj "list" aQ.toList.toArray 0) }
 refine wpAny_bind (wpAny_holding (wpAny_call_entry slot_list_sort ⟨_,hL,rfl⟩ entry_list_sort (list_sort_treeKAny (s:={ s with toks:=tk,heap:=h1.push (seqObj "list" aQ.toList.toArray 0) }) strKind_oneLt hL (StrsAre.keysOf hS) (fun v₁ v₂ rest e=>keyKind_strs (by rw [← e];exact hS)) al2 fun gG o1 o2=>⟨_,rfl,?_⟩) (args_list_sort _)))
 obtain ⟨ys,p1,p2,p3⟩:=sorted_out_str hS o1 o2
 obtain ⟨e',he'⟩:=sortedHeap_at (vs:=aQ.toList) (out:=Array.map (fun x=>x.2) (arrOf gG)) hL
 have hl2:(ys.map V.str).length≤sizeLine:=by
  rw [List.length_map,p2.length_eq]
  exact Nat.le_trans hz (by decide)
 have old:∀ b o,h1.get? b=some o→(sortedHeap (h1.push (seqObj "list" aQ.toList.toArray 0)) h1.objs.size aQ.toList (Array.map (fun x=>x.2) (arrOf gG))).get? b=some o:=fun b o eb=>by
  have lt:=Heap.lt_size eb
  rw [sortedHeap_old (Nat.ne_of_lt lt) (by rw [size_push'];exact Nat.lt_succ_of_lt lt)]
  exact Heap.get?_push_of_some _ eb
 exact wpAny_pure ⟨_,rfl,.ref h1.objs.size,upd H h1.objs.size (.lst (ys.map V.str)),J.laid (t':=tk) old (Nat.le_refl _) (show ObjOk X.prog X.w _ _ _ (.lst (ys.map V.str)) from ⟨hl2,(Array.map (fun x=>x.2) (arrOf gG)).toList,e',vals_of_strs p1,he'⟩),rfl,q _ _ p2 p3 (J.hok.fresh (Nat.le_refl _))⟩
end
end Oz
namespace Oz
open PySem L2 PyProof.Rows
section
variable {G:bB} {M:aF} {W:WX} {X:Cx} {k:Nat} {a b:Expr} {ca cb:E} {p pos cH:Pos} {es:List Expr} {cU:Es}
theorem acA (g:Good G k X) (op:CmpOp) (ha:PE X a (tE G M W ca)) (hb:PE X b (tE G M W cb)) (hm:behindInMarks op b=false):PE X (.Compare a [op] [b] pos) (tE G M W (.cmp op ca cb)):=
 (pe_cmpR (Aj g op) ha hb hm).imp fun σ H Q ⟨ρ,η,S,s,r,h⟩=>⟨ρ,η,S,s,r,by
  simp only [ev] at h
  refine (PR.bind h).mono fun ρ1 H1 x S1 bU s1 h1 v hv=>⟨ρ1,η,S1,s1,r.step bU,(PR.bind h1).mono fun ρ2 H2 y S2 st2 s2 h2 w hw=> ?_⟩
  obtain ⟨z,e,h3⟩:=(PR.bind h2).ig
  exact ⟨ρ2,S2,x,y,z,s2,hv.step st2,hw,e,(h3.here s2).here s2 _ (by simp only [VR])⟩⟩
theorem acR (g:Good G k X) (op:CmpOp) (ha:PE X a (tE G M W ca)) (hb:PE X b (tE G M W cb)) (hm:behindInMarks op b=false):PT X (.Compare a [op] [b] pos) (tQ G M W (.cmp op ca cb)):=
 (pt_cmpR (Aj g op) ha hb hm).imp fun σ H Q ⟨ρ,η,S,s,r,h⟩=>⟨ρ,η,S,s,r,by
  simp only [ev] at h
  refine (PR.bind h).mono fun ρ1 H1 x S1 bU s1 h1 v hv=>⟨ρ1,η,S1,s1,r.step bU,(PR.bind h1).mono fun ρ2 H2 y S2 st2 s2 h2 w hw=> ?_⟩
  obtain ⟨z,e,h3⟩:=(PR.bind h2).ig
  obtain ⟨d,e2,q⟩:=(h3.here s2).here s2
  exact ⟨ρ2,S2,x,y,z,s2,hv.step st2,hw,e,_,rfl,by cases e2;exact q⟩⟩
def B1.nm:B1→Str
 | .len=>"len" | .all=>"all" | .any=>"any" | .tuple=>"tuple" | .repr=>"repr" | .str=>"str" | .int=>"int" | .sum=>"sum" | .max=>"max"
theorem tB1 (f:B1) (σ:L2.St) (H:Hp) (Q:VK) (h:tE G M W (.b1 f ca) σ H Q):tCB (rB1 G f) (tCons (tE G M W ca) tNil) σ H Q:=by
 obtain ⟨ρ,η,S,s,r,h⟩:=h
 simp only [ev] at h
 refine ⟨ρ,η,S,s,r,(PR.bind h).mono fun ρ1 H1 x S1 bU s1 h1 v hv=> ?_⟩
 obtain ⟨z,e,h2⟩:=h1.ig
 exact ⟨ρ1,S1,x,z,v,rfl,s1,hv,e,h2⟩
theorem bL [bT G X] (g:Good G k X) (f:B1) (hg:Gl X f.nm) (hm:X.mg f.nm=none) (ha:PE X a (tE G M W ca)) (hs:starEach [a] X.env=[(false,eval a X.env)]:=by rfl) (he:starEach [a] X.env=(false,eval a X.env)::starEach [] X.env:=by rfl) (jt:(backTo pos (starEach [] X.env)).any (·.1)=false:=by rfl) :
  PE X (.Call (.Name f.nm p) [a] [] pos) (tE G M W (.b1 f ca)):=by
 have hA:=vH (M:=M) (W:=W) ha hs
 cases f with
 | len=>exact (pe_callB (id:="len") (yZ g .len) hg hm (by decide+kernel) hA (by decide) (by decide) he jt).imp (tB1 .len)
 | all=>exact (pe_callB (id:="all") (yZ g .all) hg hm (by decide+kernel) hA (by decide) (by decide) he jt).imp (tB1 .all)
 | any=>exact (pe_callB (id:="any") (yZ g .any) hg hm (by decide+kernel) hA (by decide) (by decide) he jt).imp (tB1 .any)
 | repr=>exact (pe_callB (id:="repr") (yZ g .repr) hg hm (by decide+kernel) hA (by decide) (by decide) he jt).imp (tB1 .repr)
 | sum=>exact (pe_callB (id:="sum") (yZ g .sum) hg hm (by decide+kernel) hA (by decide) (by decide) he jt).imp (tB1 .sum)
 | max=>exact (pe_callB (id:="max") (yZ g .max) hg hm (by decide+kernel) hA (by decide) (by decide) he jt).imp (tB1 .max)
 | tuple=>exact (pe_callTy (T:="tuple") (yZ g .tuple) hg hm (by decide+kernel) hA (by decide) (by decide) he jt).imp (tB1 .tuple)
 | str=>exact (pe_callTy (T:="str") (yZ g .str) hg hm (by decide+kernel) hA (by decide) (by decide) he jt).imp (tB1 .str)
 | int=>exact (pe_callTy (T:="int") (yZ g .int) hg hm (by decide+kernel) hA (by decide) (by decide) he jt).imp (tB1 .int)
def Mm.rule:Mm→V→List V→Hp→VK→Prop
 | .append=>rAppend | .pop=>rPop | .Px=>rPopAt | .clear=>rClear
 | .insert=>fun x vs H Q=>∃ (l:Addr) (xs:List V) (i:Int) (y:V),x=.ref l∧vs=[.int i,y]∧H l=some (.lst xs)∧xs.length<sizeLine∧0≤i∧i<2 ^ 63∧Q .non (upd H l (.lst (xs.take i.toNat++[y]++xs.drop i.toNat)))
 | _=>fun _ _ _ _=>False
def Mm.nm:Mm→Str
 | .append=>"append" | .pop=>"pop" | .Px=>"pop" | .clear=>"clear" | .extend=>"extend" | .insert=>"insert"
theorem au.dropLast {ρ:List Addr} {H:Hp} {xs:List Vl} {vs:List V} (h:au G ρ H xs vs):au G ρ H xs.dropLast vs.dropLast:=by
 rw [List.dropLast_eq_take,List.dropLast_eq_take,h.length]
 exact h.take _
theorem au.erase {ρ:List Addr} {H:Hp}:∀ {xs:List Vl} {vs:List V} (i:Nat),au G ρ H xs vs→au G ρ H (xs.eraseIdx i) (vs.eraseIdx i)
 | [],vs,i,h=>by simp only [au] at h;subst h;exact au.nil
 | x::xs,vs,0,h=>by simp only [au] at h;obtain ⟨v,r,rfl,_,h2⟩:=h;exact h2
 | x::xs,vs,i+1,h=>by simp only [au] at h;obtain ⟨v,r,rfl,h1,h2⟩:=h;exact au.cons h1 (au.erase i h2)
theorem agI {ρ:List Addr} {H:Hp} (m:Mm) {ys xs zs:List Vl} {v:Vl} {l:Addr} {vs as:List V} {Q:VK} (e:Kv m ys xs=some (v,zs)) (hl:H l=some (.lst vs)) (hy:au G ρ H ys vs) (hx:au G ρ H xs as)
  (q:∀ w ws,VR G ρ H v w→au G ρ H zs ws→Q w (upd H l (.lst ws))):m.rule (.ref l) as H Q:=by
 unfold Kv at e
 split at e
 ·rename_i y
  split at e
  ·rename_i hz
   simp only [Option.some.injEq,Prod.mk.injEq] at e
   obtain ⟨rfl,rfl⟩:=e
   simp only [au] at hx
   obtain ⟨w,r,rfl,hw,rfl⟩:=hx
   exact ⟨l,vs,w,rfl,rfl,hl,by rw [← hy.length];exact hz,q _ _ (by simp only [VR]) (hy.append (au.cons hw au.nil))⟩
  ·cases e
 ·split at e
  ·rename_i y ey
   simp only [Option.some.injEq,Prod.mk.injEq] at e
   obtain ⟨rfl,rfl⟩:=e
   simp only [au] at hx
   subst hx
   obtain ⟨w,e1,e2⟩:=hy.get ey
   exact ⟨l,vs,w,rfl,rfl,hl,by rw [← hy.length];exact e1,q _ _ e2 hy.dropLast⟩
  ·cases e
 ·rename_i i
  split at e
  ·rename_i hi
   obtain ⟨n,e1,e2⟩:=Option.bind_eq_some_iff.mp e
   obtain ⟨y,e3,e4⟩:=Option.map_eq_some_iff.mp e2
   simp only [Prod.mk.injEq] at e4
   obtain ⟨rfl,rfl⟩:=e4
   simp only [au,VR] at hx
   obtain ⟨w,r,rfl,rfl,rfl⟩:=hx
   obtain ⟨w,g1,g2⟩:=hy.get e3
   exact ⟨l,vs,i,n,w,rfl,rfl,hl,hi.1,hi.2,by rw [← hy.length];exact e1,g1,q _ _ g2 (hy.erase n)⟩
  ·cases e
 ·simp only [Option.some.injEq,Prod.mk.injEq] at e
  obtain ⟨rfl,rfl⟩:=e
  simp only [au] at hx
  subst hx
  exact ⟨l,vs,rfl,rfl,hl,q _ _ (by simp only [VR]) au.nil⟩
 ·rename_i i y
  split at e
  ·rename_i hc
   simp only [Option.some.injEq,Prod.mk.injEq] at e
   obtain ⟨rfl,rfl⟩:=e
   simp only [au] at hx
   obtain ⟨w0,r,rfl,hw0,w,r',rfl,hw,rfl⟩:=hx
   simp only [VR] at hw0;subst hw0
   exact ⟨l,vs,i,w,rfl,rfl,hl,by rw [← hy.length];exact hc.1,hc.2.1,hc.2.2,q _ _ (by simp only [VR]) (((hy.take _).append (au.cons hw au.nil)).append (hy.drop _))⟩
  ·cases e
 ·cases e
theorem YW {S:Hs} {x:Vl} {r:Nat} (h:qp S x=some r):x=.ref r∧∃ ys,S[r]? =some (.lst ys):=by
 unfold qp at h
 split at h
 ·split at h
  ·rename_i ys e;cases h;exact ⟨rfl,ys,e⟩
  ·cases h
 ·cases h
theorem adq {ρ:List Addr} {H:Hp} {S:Hs} {r:Nat} {l:Addr} {zs:List Vl} {ws:List V} (s:bf G ρ H S) (hr:ρ[r]? =some l) (nf:∀ od u,H l≠some (.frz od u)) (hz:au G ρ H zs ws):Step ρ H ρ (upd H l (.lst ws))∧bf G ρ (upd H l (.lst ws)) (S.set r (.lst zs)):=by
 have st:Step ρ H ρ (upd H l (.lst ws)):=⟨List.prefix_refl _,fun b o hb hn=>by
  rw [upd_ne fun e=>hn (by subst e;exact List.mem_of_getElem? hr)];exact hb,fun b hb=>.inl hb,oU nf⟩
 exact bf.put s hr nf ⟨ws,upd_same,au.step st _ _ hz⟩
theorem ahi (m:Mm) (g:Good G k X) (σ:L2.St) (H:Hp) (Q:VK) (h:tE G M W (.mut m ca cU) σ H Q):tBM X.K "list" m.rule (tE G M W ca) (tA G M W cU) σ H Q:=by
 obtain ⟨ρ,η,S,s,r,h⟩:=h
 simp only [ev] at h
 refine ⟨ρ,η,S,s,r,(PR.bind h).mono fun ρ1 H1 x S1 bU s1 h1 v hv=> ?_⟩
 cases el:qp S1 x with
 | none=>rw [el] at h1;exact h1.elim
 | some n=>
  rw [el] at h1
  obtain ⟨rfl,ys0,e0⟩:=YW el
  obtain ⟨l,rfl,hl,vs0,hl0,_⟩:=s1.ref hv e0
  refine ⟨.inl ⟨rfl,vs0,SqL.of hl0⟩,ρ1,η,S1,s1,r.step bU,(PR.bind h1).mono fun ρ2 H2 xs S2 st2 s2 h2 as ha=> ?_⟩
  split at h2
  ·rename_i ys ey
   split at h2
   ·rename_i v zs em
    obtain ⟨l',e',hl',vs,hv2,xO⟩:=s2.ref (hv.step st2) ey
    cases e'
    refine agI m em hv2 xO ha fun w ws hw hz=> ?_
    obtain ⟨lN,s3⟩:=adq s2 hl' (fun od u z=>by rw [hv2] at z;cases z) hz
    exact h2 ρ2 _ lN s3 w (hw.step lN)
   ·exact h2.elim
  ·exact h2.elim
section
variable {e:Expr}
theorem jG (g:Good G k X) (m:Mm) (hm:m=.append∨m=.Px∨m=.insert) (ha:PE X a (tE G M W ca)) (hes:PA X (e::es) (tA G M W cU)) (fU:attributeBase a m.nm X.env (eval a X.env)=eval a X.env:=by rfl)
  (SN:((backTo pos (starEach (e::es) X.env)).all (fun x=> !x.1)&&(backToKw pos (keywordEach [] X.env)).all (fun x=>x.1.isSome)
   &&decide ((e::es).length+([]:List Keyword).length+(if ([]:List Keyword).isEmpty then 0 else 1)<30))=true:=by rfl)
  (fO:(cH.endLine==pos.line)=true:=by rfl) (hs:starEach (e::es) X.env=(false,eval e X.env)::starEach es X.env:=by rfl) (qO:(backTo pos (starEach es X.env)).any (·.1)=false:=by rfl) :
  PE X (.Call (.Attribute a m.nm cH) (e::es) [] pos) (tE G M W (.mut m ca cU)):=by
 rcases hm with rfl | rfl | rfl
 ·exact (pe_bm F.plainAttrs_list F.slot_list_append F.type_list_append mt_append ha hes fU SN fO hs qO).imp (ahi .append g)
 ·exact (pe_bm F.plainAttrs_list F.slot_list_pop F.type_list_pop mt_popAt ha hes fU SN fO hs qO).imp (ahi .Px g)
 ·exact (pe_bm F.plainAttrs_list F.slot_list_insert F.type_list_insert mt_insert ha hes fU SN fO hs qO).imp (ahi .insert g)
theorem pD (g:Good G k X) (ha:PE X a (tE G M W ca)) (hb:PE X b (tE G M W cb)) (hs:starEach [b] X.env=[(false,eval b X.env)]:=by rfl) (fU:attributeBase a "join" X.env (eval a X.env)=eval a X.env:=by rfl) (fO:(cH.endLine==pos.line)=true:=by rfl) :
  PE X (.Call (.Attribute a "join" cH) [b] [] pos) (tE G M W (.tm .join ca cb)):=(pe_join ha hb hs fU fO).imp fun σ H Q ⟨ρ,η,S,s,r,h⟩=>⟨ρ,η,S,s,r,by
 simp only [ev] at h
 refine (PR.bind h).mono fun ρ1 H1 x S1 bU s1 h1 v hv=> ?_
 cases x with
 | str z=>
  simp only [VR] at hv
  subst hv
  refine ⟨⟨z,rfl⟩,ρ1,η,S1,s1,r.step bU,(PR.bind h1).mono fun ρ2 H2 y S2 st2 s2 h2 w hw=> ?_⟩
  obtain ⟨q,e,h3⟩:=h2.ig
  unfold yd at e
  simp only at e
  cases es:cV S2 y with
  | none=>rw [es] at e;cases e
  | some xs=>
   rw [es] at e
   simp only [Option.bind] at e
   cases ea:uR xs with
   | none=>rw [ea] at e;cases e
   | some zs=>
    rw [ea] at e
    simp only at e
    split at e
    ·rename_i hz
     cases e
     obtain ⟨p,vs,rfl,h4,h5⟩:=uw s2 hw es
     have e6:=h5.strs ea
     subst e6
     exact ⟨z,p,zs,rfl,rfl,by rw [g.K];exact h4,hz,h3.here s2 _ (by simp only [VR])⟩
    ·cases e
 | _=>exact h1.elim⟩
end
def amm (K:PySem.W.Frag):R2:=fun x y H Q=>∃ l n xs,x=V.ref l∧y=V.int n∧SqL K H l xs∧0≤n∧n<2 ^ 63∧xs.length* n.toNat≤sizeLine∧∀ p,H p=none→Q (.ref p) (upd H p (.lst (List.replicate n.toNat xs).flatten))
end
end Oz
namespace Oz
open PySem PySem.Spec L2 PyProof.Rows
section
variable {G:bB} {k:Nat} {X:Cx} {M:aF} {W:WX} {a b:Expr} {ca cb:E} {pos cH:Pos}
theorem FZ (g:Good G k X) (ha:PE X a (tE G M W ca)) (hb:PE X b (tE G M W cb)) (hs:starEach [b] X.env=[(false,eval b X.env)]:=by rfl) (fU:attributeBase a "partition" X.env (eval a X.env)=eval a X.env:=by rfl) (fO:(cH.endLine==pos.line)=true:=by rfl) :
  PE X (.Call (.Attribute a "partition" cH) [b] [] pos) (tE G M W (.tm .part ca cb)):=(pe_partition ha hb hs fU fO).imp fun σ H Q ⟨ρ,η,S,s,r,h⟩=>⟨ρ,η,S,s,r,by
 simp only [ev] at h
 refine (PR.bind h).mono fun ρ1 H1 x S1 bU s1 h1 v hv=> ?_
 cases x with
 | str z=>
  simp only [VR] at hv
  subst hv
  refine ⟨⟨z,rfl⟩,ρ1,η,S1,s1,r.step bU,(PR.bind h1).mono fun ρ2 H2 y S2 st2 s2 h2 w hw=> ?_⟩
  obtain ⟨q,e,h3⟩:=h2.ig
  unfold yd at e
  cases y with
  | str t=>
   simp only at e
   split at e
   ·rename_i hz
    cases e
    simp only [VR] at hw
    subst hw
    refine ⟨z,t,rfl,rfl,by simpa using hz.1,hz.2,fun p hp=> ?_⟩
    have xO:au G ρ2 H2 [.str (Txt.partition z t).1,.str (Txt.partition z t).2.1,.str (Txt.partition z t).2.2] [V.str (Txt.partition z t).1,.str (Txt.partition z t).2.1,.str (Txt.partition z t).2.2]:=au.cons (by simp only [VR]) (au.cons (by simp only [VR]) (au.cons (by simp only [VR]) au.nil))
    exact Jh.tup (ρ:=ρ2) (fun ρ' H' st s'=>PR.here (h3.step st) s') s2 xO hp
   ·cases e
  | _=>simp only at e;cases e
 | _=>exact h1.elim⟩
end
end Oz
namespace Oz
open PySem L2 PyProof.Rows
section
variable {G:bB} {k n:Nat} {X:Cx} {M:aF} {W:WX} {f:Addr} {fd:FuncData} {ps:List Str} {ds:List Value} {q c m:Str} {a b e:Expr} {es:List Expr} {ca cb:E} {cU:Es} {p pos cH:Pos} {dxs:List Vl} {dvs:List V}
theorem yX {ρ:List Addr} {H:Hp} {S:Hs} {x:Vl} {v:V} (s:bf G ρ H S) (hv:VR G ρ H x v) (h:lH S x c m=true):∃ a dx fs,v=.ref a∧H a=some (.ins (G.cl c) dx fs)∧fs.lookup m=none:=by
 unfold lH at h
 split at h
 ·rename_i d ns vs ei
  rw [Bool.and_eq_true] at h
  have h1:d=c:=of_decide_eq_true h.1
  subst h1
  obtain ⟨a,dx,fs,rfl,h2,h3,_⟩:=Ml s hv ei
  refine ⟨a,dx,fs,rfl,h2,?_⟩
  have h4:m∉ns:=fun z=>by
   have h5:=h.2
   rw [List.contains_iff_mem.mpr z] at h5
   cases h5
  rw [← h3] at h4
  exact List.lookup_eq_none_iff.mpr fun p hp=>bne_iff_ne.mpr fun z=>h4 (List.mem_map.mpr ⟨p,hp,z.symm⟩)
 ·cases h
def tMc (X:Cx) (k n:Nat) (G:bB) (M:aF) (c m:Str) (W:WX) (ca:E) (cU:Es) (dxs:List Vl):TE:=fun σ H Q=>∃ ρ η S,bf G ρ H S∧ER G ρ H η σ∧PR G W σ ρ H (ev M ca η S) fun ρ1 H1 x S1=>lH S1 x c m=true∧PR G W σ ρ1 H1 (evs M cU η S1) fun ρ2 H2 xs S2=>xs.length+1+dxs.length=n∧PR G W σ ρ2 H2 (M.cal (dot c m) (x::(xs++dxs)) S2) (okR G H2 Q)
theorem ac6 {pl:Sem Bool} [bT G X] (g:Good G (k+1) X) (F:qu X.prog X.w X.K X.mg X.base k f fd ps (spI G M n (dot c m))) (hC:Cls X.K (G.cl c)) (hm:Meth X.K (G.cl c) m f) (hb:Binds X.K fd ps ds) (hd:Vals dvs ds) (hc:Az G dxs dvs) (tk:Takes X W)
  (ha:PE X a (tE G M W ca)) (hes:PA X (e::es) (tA G M W cU)) (Rq:starEach (e::es) X.env=(false,eval e X.env)::starEach es X.env:=by rfl) (jt:(backTo pos (starEach es X.env)).any (·.1)=false:=by rfl)
  (ht:eval (.Call (.Attribute a m cH) (e::es) [] pos) X.env=(do
   let ov ← eval a X.env
   standAt cH.atName
   let (f,first) ← holding [ov] (getMethod ov m pl)
   callWith pos f first (backTo pos (starEach (e::es) X.env)) (backToKw pos (keywordEach [] X.env))):=by rfl) :
  PE X (.Call (.Attribute a m cH) (e::es) [] pos) (tMc X k n G M c m W ca cU dxs):=by
 refine ⟨fun pins s σ H Q I ⟨ρ,η,S,s0,r,h⟩=> ?_⟩
 have hr:Room k X.A:=g.rm.mono (Nat.le_succ _)
 refine PySem.W.methodCall_KW (pl:=pl) (thn (ha.run pins s σ H (fun v H1=>∃ x ρ1 S1,Step ρ H ρ1 H1∧bf G ρ1 H1 S1∧VR G ρ1 H1 x v∧lH S1 x c m=true∧PR G W σ ρ1 H1 (evs M cU η S1) fun ρ2 H2 xs S2=>xs.length+1+dxs.length=n∧PR G W σ ρ2 H2 (M.cal (dot c m) (x::(xs++dxs)) S2) (okR G H2 Q)) I ⟨ρ,η,S,s0,r,h.mono fun ρ1 H1 x S1 bU s1 h1 v hv=>⟨x,ρ1,S1,bU,s1,hv,h1⟩⟩) fun u s1 ⟨v,H1,I1,rv,x,ρ1,S1,bU,sm1,hv,hM,hp⟩=> ?_) ht
 obtain ⟨a',dx,fs,rfl,ea,l⟩:=yX sm1 hv hM
 obtain rfl:u=Value.ref a':=rv
 refine getmeth_ok I1 ea hC hm l ?_
 refine PySem.W.callWith_K (first:=[.ref a']) (h₀:=X.base) I.ok.mod.kin hm.kp (thn (hes.run pos pins s1 σ H1 (fun vs H2=>∃ xs ρ2 S2,Step ρ1 H1 ρ2 H2∧bf G ρ2 H2 S2∧au G ρ2 H2 xs vs∧xs.length+1+dxs.length=n∧PR G W σ ρ2 H2 (M.cal (dot c m) (x::(xs++dxs)) S2) (okR G H2 Q)) I1 ⟨ρ1,η,S1,sm1,r.step bU,hp.mono fun ρ2 H2 xs S2 st2 s2 h2 vs hv2=>⟨xs,ρ2,S2,st2,s2,hv2,h2⟩⟩) fun us s2 ⟨vs,H2,I2,rvs,xs,ρ2,S2,st2,sm2,xO,hl,zG⟩=>⟨I2.kIn,?_⟩) Rq jt
 refine abI (us:=.ref a'::us) (vs:=.ref a'::vs) F hr g.Mf hb hd tk I2 (.cons rfl rvs) ⟨?_,ρ2,S2,x::(xs++dxs),sm2,au.cons (hv.step st2) (xO.append (hc _ _)),PR.vJ zG⟩
 rw [List.length_append,List.length_cons,← xO.length,← (hc ρ2 H2).length];exact hl
theorem adZ {pl:Sem Bool} [bT G X] (g:Good G (k+1) X) (F:qu X.prog X.w X.K X.mg X.base k f fd ps (spI G M n (dot c m))) (hC:Cls X.K (G.cl c)) (hm:Meth X.K (G.cl c) m f) (hb:Binds X.K fd ps ds) (hd:Vals dvs ds) (hc:Az G dxs dvs) (tk:Takes X W)
  (ha:PE X a (tE G M W ca))
  (ht:eval (.Call (.Attribute a m cH) [] [] pos) X.env=(do
   let ov ← eval a X.env
   standAt cH.atName
   let (f,first) ← holding [ov] (getMethod ov m pl)
   callWith pos f first (backTo pos (starEach [] X.env)) (backToKw pos (keywordEach [] X.env))):=by rfl) :
  PE X (.Call (.Attribute a m cH) [] [] pos) (tMc X k n G M c m W ca .nil dxs):=by
 refine ⟨fun pins s σ H Q I ⟨ρ,η,S,s0,r,h⟩=> ?_⟩
 have hr:Room k X.A:=g.rm.mono (Nat.le_succ _)
 refine PySem.W.methodCall_KW (pl:=pl) (thn (ha.run pins s σ H (fun v H1=>∃ x ρ1 S1,Step ρ H ρ1 H1∧bf G ρ1 H1 S1∧VR G ρ1 H1 x v∧lH S1 x c m=true∧PR G W σ ρ1 H1 (evs M .nil η S1) fun ρ2 H2 xs S2=>xs.length+1+dxs.length=n∧PR G W σ ρ2 H2 (M.cal (dot c m) (x::(xs++dxs)) S2) (okR G H2 Q)) I ⟨ρ,η,S,s0,r,h.mono fun ρ1 H1 x S1 bU s1 h1 v hv=>⟨x,ρ1,S1,bU,s1,hv,h1⟩⟩) fun u s1 ⟨v,H1,I1,rv,x,ρ1,S1,bU,sm1,hv,hM,hp⟩=> ?_) ht
 obtain ⟨a',dx,fs,rfl,ea,l⟩:=yX sm1 hv hM
 obtain rfl:u=Value.ref a':=rv
 simp only [evs] at hp
 obtain ⟨hl,zG⟩:=hp.here sm1
 refine getmeth_ok I1 ea hC hm l ?_
 refine PySem.W.callWith_K0 (first:=[.ref a']) I1.kIn hm.kp (abI (us:=[.ref a']) (vs:=[.ref a']) F hr g.Mf hb hd tk I1 (.cons rfl .nil) ⟨?_,ρ1,S1,x::dxs,sm1,au.cons hv (hc _ _),PR.vJ zG⟩)
 simp only [List.length_nil] at hl
 rw [List.length_append,← (hc ρ1 H1).length]
 simp only [List.length_cons,List.length_nil]
 omega
theorem Vv {σ:L2.St} {H:Hp} {Q:VK} (hn:cU.len+1+dxs.length=n) (h:tE G M W (.Zf c m ca (cU.app dxs)) σ H Q):tMc X k n G M c m W ca cU dxs σ H Q:=by
 obtain ⟨ρ,η,S,s0,r,h⟩:=h
 simp only [ev] at h
 refine ⟨ρ,η,S,s0,r,(PR.bind h).mono fun ρ1 H1 x S1 bU s1 h1=> ?_⟩
 split at h1
 ·rename_i hM
  refine ⟨hM,?_⟩
  rw [qH] at h1
  cases e:evs M cU η S1 with
  | ok xs S2=>
   rw [e] at h1
   simp only [Res.bind] at h1
   exact fun ρ2 H2 st s=>⟨by rw [mO _ _ _ _ _ e];exact hn,PR.acd s1 st s (PR.step h1 st)⟩
  | exc x S2=>rw [e] at h1;exact h1
  | bad=>rw [e] at h1;exact h1
 ·exact h1.elim
theorem R8 {A:Around} {pins:List (Addr × Obj)} {σ:L2.St} {H:Hp} {s:Shared} {Q:VK} {us:List Value} {vs:List V} {sp:Sp} {E':Value→Shared→Prop} (F:qu X.prog X.w X.K X.mg X.base k f fd ps sp) (hr:Room k A) (hg:A.guards=some []) (hfr:A.frames=X.A.frames) (hb:Binds X.K fd ps [])
  (I:Inv X pins σ H s) (r:Vals vs us) (h:sp vs H Q (fun _ _ _=>False)):wpAny (model X.prog X.w) A (call (.ref f) us) (EP X pins σ Q) E' s:=by
 have len:us.length=ps.length:=r.length.symm.trans (F.len _ _ _ _ h)
 have e0:Env0 X.prog X.w X.K X.mg X.base A X.stack s H:=by
  have e:=I.env0
  exact ⟨hfr.trans e.frames,e.mod,e.bs,e.bsz,e.funs,e.frf,e.hok,e.bare⟩
 have hb':=hb s us I.kIn (by simpa using len)
 rw [List.append_nil] at hb'
 refine wpAny_call (codeAny_mono (F.run A X.stack s H ⟨us,[]⟩ us vs Q _ hr hg e0 hb' r h) ?_)
 intro r' s' hq
 match r',hq with
 | .error e,hq=>obtain ⟨_,_,_,_,_,_,_,_,_,_,_,_,hE⟩:=hq;exact hE.elim
 | .ok (.ret u),hq=>exact I.after hq
 | .ok .next,hq=>exact hq.elim
 | .ok .brk,hq=>exact hq.elim
 | .ok .cont,hq=>exact hq.elim
theorem UW {α:Type} {ρ:List Addr} {H:Hp} {σ:L2.St} {r:Res α} {ok:List Addr→Hp→α→Hs→Prop} (h:PR G W σ ρ H (Rr r) ok):PR G (fun _ _ _ _=>False) [] ρ H r ok:=by
 cases r with
 | ok a S=>exact h
 | exc x S=>exact h.elim
 | bad=>exact h
theorem N7 {ρ:List Addr} {H:Hp} {S:Hs} {σ:L2.St} {W':WX} {xs:List Vl} {ok:List Addr→Hp→Vl→Hs→Prop} {Q:VK} (s0:bf G ρ H S) (h:PR G W' σ ρ H (pX M q xs S) ok) (hQ:∀ ρ' H' x S' v,Step ρ H ρ' H'→bf G ρ' H' S'→ok ρ' H' x S'→VR G ρ' H' x v→Q v H'):PR G W' σ ρ H (M.cal q xs S) (okR G H Q):=
 PR.acd s0 (Step.refl _ _) s0 (h.mono fun ρ' H' x S' st s' h' v hv=>hQ ρ' H' x S' v st s' h' hv)
def ajI (G:bB) (M:aF) (c:Str):List V→Hp→VK→Prop:=fun xs H Q=>∃ ρ S x v,xs=[v]∧bf G ρ H S∧VR G ρ H x v∧lH S x c "__len__"=true∧PR G (fun _ _ _ _=>False) [] ρ H (pX M (dot c "__len__") [x] S) fun _ H' z _=>∃ n,z=.int n∧0≤n∧n<2 ^ 63∧Q (.int n) H'
theorem aeB [bT G X] (g:Good G (k+1) X) (F:qu X.prog X.w X.K X.mg X.base k f fd ps (spI G M 1 (dot c "__len__"))) (hs:PySem.W.findIn X.K (.ref (G.cl c)) "__len__"=some (some (.ref f))) (hf:PySem.W.isFn X.K (.ref f)=true) (hb:Binds X.K fd ps []):CallR X (.builtin "len") (ajI G M c):=by
 intro pins s σ H xs us Q I r h
 obtain ⟨ρ,S,x,v,rfl,s0,hv,hM,hp⟩:=h
 obtain ⟨a',dx,fs,rfl,ea,l⟩:=yX s0 hv hM
 rw [Vals.ref1 r]
 obtain ⟨mA,J,_⟩:=ins_get I.hok ea
 obtain ⟨od,J,_⟩:=J.look
 obtain ⟨m',hF⟩:=I.fr
 refine PySem.W.len_K hF I.ok.mod.kin J hs hf (wpAny_mono (R8 (vs:=[.ref a']) (E':=X.xe) (A:=X.A.in1) (Q:=fun z H'=>∃ n,z=.int n∧0≤n∧n<2 ^ 63∧Q (.int n) H') F g.rm.in1 g.Mf rfl hb I (.cons rfl .nil) ⟨rfl,ρ,S,[x],s0,au.cons hv au.nil,?_⟩) (fun u s1 ⟨z,H1,I1,rz,n,ez,h0,h1,q⟩=> ?_) fun _ _ z=>z)
 ·exact N7 s0 hp fun ρ' H' x S' v st s' ⟨n,e,h0,h1,q⟩ hv=>by
   subst e
   simp only [VR] at hv
   exact ⟨n,hv,h0,h1,q⟩
 ·subst ez
  obtain ⟨t,rfl⟩:=rz
  exact ⟨⟨h0,h1⟩,.int n,H1,I1.tok _,⟨_,rfl⟩,q⟩
theorem adk [bT G X] (g:Good G (k+1) X) (F:qu X.prog X.w X.K X.mg X.base k f fd ps (spI G M 1 (dot c "__len__"))) (hs:PySem.W.findIn X.K (.ref (G.cl c)) "__len__"=some (some (.ref f))) (hf:PySem.W.isFn X.K (.ref f)=true) (hb:Binds X.K fd ps []) (hg:Gl X "len") (hm:X.mg "len"=none) (ha:PE X a (tE G M W ca)) (Uo:starEach [a] X.env=[(false,eval a X.env)]:=by rfl) (he:starEach [a] X.env=(false,eval a X.env)::starEach [] X.env:=by rfl) (jt:(backTo pos (starEach [] X.env)).any (·.1)=false:=by rfl) :
  PE X (.Call (.Name "len" p) [a] [] pos) (tE G M W (.agT c ca)):=(pe_callB (aeB g F hs hf hb) hg hm (by decide+kernel) (vH ha Uo) (by decide) (by decide) he jt).imp fun σ H Q ⟨ρ,η,S,s,r,h⟩=>⟨ρ,η,S,s,r,by
 simp only [ev] at h
 refine (PR.bind h).mono fun ρ1 H1 x S1 bU s1 h1 v hv=> ?_
 split at h1
 ·rename_i hM
  refine ⟨ρ1,S1,x,v,rfl,s1,hv,hM,UW ((PR.bind h1).mono fun ρ2 H2 z S2 st2 s2 h2=> ?_)⟩
  split at h2
  ·split at h2
   ·rename_i hn
    exact ⟨_,rfl,hn.1,hn.2,h2.here s2 _ (by simp only [VR])⟩
   ·exact h2.elim
  ·exact h2.elim
 ·exact h1.elim⟩
theorem O6 {Mo:Model} {h:Heap} {y:Addr} {o:Obj} (ho:h.get? y=some o):PySem.W.Looks Mo h (typeOf (.ref y)) o.cls:=(PySem.W.Looks.ld ho).andThen .now
theorem Y0 {Mo:Model} {pins:List (Addr × Obj)} {σ:L2.St} {s:Shared} {ρ:List Addr} {H:Hp} {S:Hs} {y:Vl} {w:V} {u:Value} (g:Good G k X) (I:Inv X pins σ H s) (s0:bf G ρ H S) (hw:VR G ρ H y w) (ru:RelV w u) (h:eqY S c y=true) :
  PySem.W.Looks Mo s.heap (typeOf u) (.ref (G.cl c))∨∃ T:String,(T="list"∨T="str"∨T="tuple")∧PySem.W.Looks Mo s.heap (typeOf u) (.type T):=by
 unfold eqY at h
 split at h
 ·rename_i d ns vs ei
  have h1:d=c:=of_decide_eq_true h
  subst h1
  obtain ⟨a,dx,fs,rfl,h2,_⟩:=Ml s0 hw ei
  cases ru
  obtain ⟨mA,J,_⟩:=ins_get I.hok h2
  obtain ⟨od,J,_⟩:=J.look
  exact .inl J.type
 ·rename_i ei
  split at h
  ·simp only [VR] at hw
   subst hw
   obtain ⟨t,rfl⟩:=ru
   exact .inr ⟨"str",.inr (.inl rfl),PySem.W.Looks.of_pure rfl⟩
  ·rename_i xs
   simp only [VR] at hw
   obtain ⟨a,vs,rfl,h1,h2⟩:=hw
   cases ru
   obtain ⟨its,_,⟨o,ho,hcl,_⟩,_⟩:=I.tuple (a:=a) (xs:=vs) (by rw [g.K];exact h1.sq)
   exact .inr ⟨"tuple",.inr (.inr rfl),by rw [← hcl];exact O6 ho⟩
  ·obtain ⟨xs,ex⟩:=Option.isSome_iff_exists.mp h
   obtain ⟨a,vs,rfl,h1,_⟩:=lQ s0 hw ex
   cases ru
   obtain ⟨its,_,⟨o,n,ho,hcl,_⟩,_⟩:=I.list (a:=a) (xs:=vs) (.inl h1)
   exact .inr ⟨"list",.inl rfl,by rw [← hcl];exact O6 ho⟩
structure EqC (K:PySem.W.Frag) (C f:Addr):Prop where
 eq:PySem.W.findIn K (.ref C) "__eq__"=some (some (.ref f))
 fn:PySem.W.isFn K (.ref f)=true
 ne:PySem.W.findIn K (.ref C) "__ne__"=some (some (.builtin "object.__ne__"))
 ob:PySem.W.mroIn K C (.type "object")=some true
 nf:∀ T:String,T="list"∨T="str"∨T="tuple"→PySem.W.notFirst K C (.type T)=true
def aiM (G:bB) (M:aF) (c:Str) (ng:Bool):R2:=fun x y H Q=>∃ ρ S a b,bf G ρ H S∧VR G ρ H a x∧VR G ρ H b y∧lH S a c "__eq__"=true∧eqY S c b=true∧PR G (fun _ _ _ _=>False) [] ρ H (pX M (dot c "__eq__") [a,b] S) fun _ H' z _=>∃ d,z=.bl d∧Q (.bl (if ng then !d else d)) H'
theorem aed {A:Around} {pins:List (Addr × Obj)} {σ:L2.St} {H:Hp} {s:Shared} {Q:VK} {E':Value→Shared→Prop} {ρ:List Addr} {S:Hs} {x y:Vl} {v w:V} {u1 u2:Value} {ng:Bool} (F:qu X.prog X.w X.K X.mg X.base k f fd ps (spI G M 2 (dot c "__eq__"))) (hr:Room k A) (hg:A.guards=some []) (hfr:A.frames=X.A.frames) (hb:Binds X.K fd ps []) (I:Inv X pins σ H s) (s0:bf G ρ H S) (hv:VR G ρ H x v) (hw:VR G ρ H y w) (r1:RelV v u1) (r2:RelV w u2)
  (hp:PR G (fun _ _ _ _=>False) [] ρ H (pX M (dot c "__eq__") [x,y] S) fun _ H' z _=>∃ d,z=.bl d∧Q (.bl (if ng then !d else d)) H'):wpAny (model X.prog X.w) A (call (.ref f) [u1,u2]) (fun z s'=>∃ d H',z=.bool d∧Inv X pins σ H' s'∧Q (.bl (if ng then !d else d)) H') E' s:=by
 refine wpAny_mono (R8 (vs:=[v,w]) (E':=E') (Q:=fun z H'=>∃ d,z=.bl d∧Q (.bl (if ng then !d else d)) H') F hr hg hfr hb I (.cons r1 (.cons r2 .nil)) ⟨rfl,ρ,S,[x,y],s0,au.cons hv (au.cons hw au.nil),?_⟩) (fun u s1 ⟨z,H1,I1,rz,d,ez,q⟩=> ?_) fun _ _ z=>z
 ·exact N7 s0 hp fun ρ' H' x S' v st s' ⟨d,e,q⟩ hv=>by
   subst e
   simp only [VR] at hv
   exact ⟨d,hv,q⟩
 ·subst ez
  cases rz
  exact ⟨d,H1,rfl,I1,q⟩
theorem agy [bT G X] (g:Good G (k+3) X) (F:qu X.prog X.w X.K X.mg X.base k f fd ps (spI G M 2 (dot c "__eq__"))) (ec:EqC X.K (G.cl c) f) (hb:Binds X.K fd ps []):OpR X (compareOp .Eq) (aiM G M c false):=by
 intro pins s σ H x y v u Q I rx ry ⟨ρ,S,a,b,s0,hva,hvb,hM,hY,hp⟩
 obtain ⟨a',dx,fs,rfl,ea,l⟩:=yX s0 hva hM
 obtain rfl:v=Value.ref a':=rx
 obtain ⟨mA,J,_⟩:=ins_get I.hok ea
 obtain ⟨od,J,_⟩:=J.look
 obtain ⟨m',hF⟩:=I.fr
 have hr:Room k X.A:=g.rm.mono (by omega)
 have body:wpAny (model X.prog X.w) X.A (call (.ref f) [.ref a',u]) (PySem.W.CmpBack (EP X pins σ Q)) X.xe s:=wpAny_mono (aed (E':=X.xe) (ng:=false) F hr g.Mf rfl hb I s0 hva hvb rfl ry hp) (fun z s' ⟨d,H',e,I',q⟩=>by
  subst e
  exact ⟨.bl d,H',I',rfl,q⟩) fun _ _ z=>z
 show wpAny _ _ (richCompare .Eq (.ref a') u) _ _ _
 rcases Y0 (Mo:=model X.prog X.w) g I s0 hvb ry hY with lk | ⟨T,hT,lk⟩
 ·exact PySem.W.cmp_K (op:=.Eq) (tb:=.ref (G.cl c)) hr.units0 hF I.ok.mod.kin J lk (by simp [PySem.W.notFirst]) ec.eq ec.fn body
 ·exact PySem.W.cmp_K (op:=.Eq) (tb:=.type T) hr.units0 hF I.ok.mod.kin J lk (ec.nf T hT) ec.eq ec.fn body
end
section
variable {prog:Program} {w:World} {A:Around} {E:Value→Shared→Prop} {s:Shared} {K:PySem.W.Frag} {x C L f:Addr} {h₀:Heap} {m:Str→Option Value} {ox:Obj} {od:Option Obj} {b:Value}
end
section
variable {G:bB} {k n:Nat} {X:Cx} {M:aF} {W:WX} {f:Addr} {fd:FuncData} {ps:List Str} {c:Str} {a b:Expr} {ca cb:E} {pos:Pos}
theorem ale (ng:Bool) {σ:L2.St} {H:Hp} {Q:VK} (h:tE G M W (.oeq c ng ca cb) σ H Q):tOp (aiM G M c ng) (tE G M W ca) (tE G M W cb) σ H Q:=by
 obtain ⟨ρ,η,S,s,r,h⟩:=h
 simp only [ev] at h
 refine ⟨ρ,η,S,s,r,(PR.bind h).mono fun ρ1 H1 x S1 bU s1 h1 v hv=>⟨ρ1,η,S1,s1,r.step bU,(PR.bind h1).mono fun ρ2 H2 y S2 st2 s2 h2 w hw=> ?_⟩⟩
 split at h2
 ·rename_i hc
  rw [Bool.and_eq_true] at hc
  refine ⟨ρ2,S2,x,y,s2,hv.step st2,hw,hc.1,hc.2,UW ((PR.bind h2).mono fun ρ3 H3 z S3 lN s3 h3=> ?_)⟩
  split at h3
  ·exact ⟨_,rfl,h3.here s3 _ (by simp only [VR])⟩
  ·exact h3.elim
 ·exact h2.elim
theorem adx [bT G X] (g:Good G (k+3) X) (F:qu X.prog X.w X.K X.mg X.base k f fd ps (spI G M 2 (dot c "__eq__"))) (ec:EqC X.K (G.cl c) f) (hb:Binds X.K fd ps []) (ha:PE X a (tE G M W ca)) (hb2:PE X b (tE G M W cb)) (hm:behindInMarks .Eq b=false):PE X (.Compare a [.Eq] [b] pos) (tE G M W (.oeq c false ca cb)):=
 (pe_cmpR (agy g F ec hb) ha hb2 hm).imp fun _ _ _ h=>ale false h
end
end Oz
namespace Oz
open PySem L2 PyProof.Rows
section
variable {G:bB} {ρ ρ' ρ'':List Addr} {H:Hp} {S T:Hs} {n r0:Nat}
mutual
theorem W3 {f:Nat→Option Vl} (hs:∀ a,a∈ρ''→a∈ρ') (hf:∀ r w y,VR G ρ' H (.ref r) w→f r=some y→VR G ρ'' H y w∧y.lim n=true):∀ (x:Vl) (w:V) (y:Vl),VR G ρ' H x w→x.jZ f=some y→VR G ρ'' H y w∧y.lim n=true
 | .non,w,y,h,e | .bl _,w,y,h,e | .int _,w,y,h,e | .str _,w,y,h,e=>by
  simp only [Vl.jZ,Option.some.injEq] at e
  subst e
  simp only [VR] at h ⊢
  exact ⟨h,by simp [Vl.lim]⟩
 | .tup xs,w,y,h,e=>by
  simp only [Vl.jZ] at e
  obtain ⟨ys,e1,rfl⟩:=Option.map_eq_some_iff.mp e
  simp only [VR] at h ⊢
  obtain ⟨a,vs,rfl,h1,h2⟩:=h
  obtain ⟨i1,i2⟩:=iQ hs hf xs vs ys h2 e1
  exact ⟨⟨a,vs,rfl,h1.imp (fun q=>⟨q.1,fun z=>q.2 (hs a z)⟩) id,i1⟩,by simp only [Vl.lim];exact i2⟩
 | .lst xs,w,y,h,e=>by
  simp only [Vl.jZ] at e
  obtain ⟨ys,e1,rfl⟩:=Option.map_eq_some_iff.mp e
  simp only [VR] at h ⊢
  obtain ⟨a,vs,rfl,h1,h2⟩:=h
  obtain ⟨i1,i2⟩:=iQ hs hf xs vs ys h2 e1
  exact ⟨⟨a,vs,rfl,⟨h1.1,fun z=>h1.2 (hs a z)⟩,i1⟩,by simp only [Vl.lim];exact i2⟩
 | .dct ks xs,w,y,h,e=>by
  simp only [Vl.jZ] at e
  obtain ⟨ys,e1,rfl⟩:=Option.map_eq_some_iff.mp e
  simp only [VR] at h ⊢
  obtain ⟨a,vs,rfl,h1,hn,hk,h2⟩:=h
  obtain ⟨i1,i2⟩:=iQ hs hf xs _ ys h2 e1
  exact ⟨⟨a,vs,rfl,h1,fun z=>hn (hs a z),hk,i1⟩,by simp only [Vl.lim];exact i2⟩
 | .obj c ns xs,w,y,h,e=>by
  simp only [Vl.jZ] at e
  obtain ⟨ys,e1,rfl⟩:=Option.map_eq_some_iff.mp e
  simp only [VR] at h ⊢
  obtain ⟨a,dx,vs,rfl,h1,hn,hk,h2⟩:=h
  obtain ⟨i1,i2⟩:=iQ hs hf xs _ ys h2 e1
  exact ⟨⟨a,dx,vs,rfl,h1,fun z=>hn (hs a z),hk,i1⟩,by simp only [Vl.lim];exact i2⟩
 | .err c ns xs,w,y,h,e=>by
  simp only [Vl.jZ] at e
  obtain ⟨ys,e1,rfl⟩:=Option.map_eq_some_iff.mp e
  simp only [VR] at h ⊢
  obtain ⟨a,d,rfl,hg,⟨hd,hx⟩ | ⟨dd,fs,hd,h1,hn,hk,h2⟩⟩:=h
  ·subst hx
   simp only [iY,Option.some.injEq] at e1
   subst e1
   exact ⟨⟨a,d,rfl,hg,.inl ⟨hd,rfl⟩⟩,by simp [Vl.lim,aV]⟩
  ·obtain ⟨i1,i2⟩:=iQ hs hf xs _ ys h2 e1
   exact ⟨⟨a,d,rfl,hg,.inr ⟨dd,fs,hd,h1,fun z=>hn (hs dd z),hk,i1⟩⟩,by simp only [Vl.lim];exact i2⟩
 | .ref r,w,y,h,e=>by
  simp only [Vl.jZ] at e
  exact hf r w y h e
theorem iQ {f:Nat→Option Vl} (hs:∀ a,a∈ρ''→a∈ρ') (hf:∀ r w y,VR G ρ' H (.ref r) w→f r=some y→VR G ρ'' H y w∧y.lim n=true):∀ (xs:List Vl) (ws:List V) (ys:List Vl),au G ρ' H xs ws→iY f xs=some ys→au G ρ'' H ys ws∧aV n ys=true
 | [],ws,ys,h,e=>by
  simp only [iY,Option.some.injEq] at e
  subst e
  simp only [au] at h ⊢
  exact ⟨h,by simp [aV]⟩
 | x::xs,ws,ys,h,e=>by
  simp only [iY] at e
  obtain ⟨y,e1,e2⟩:=Option.bind_eq_some_iff.mp e
  obtain ⟨zs,e3,rfl⟩:=Option.map_eq_some_iff.mp e2
  simp only [au] at h ⊢
  obtain ⟨w,r,rfl,h1,h2⟩:=h
  obtain ⟨i1,i2⟩:=W3 hs hf x w y h1 e1
  obtain ⟨j1,j2⟩:=iQ hs hf xs r zs h2 e3
  exact ⟨⟨w,r,rfl,i1,j1⟩,by simp only [aV,i2,j2,Bool.and_self]⟩
end
theorem Us {f:Nat→Option Vl} (hs:∀ a,a∈ρ''→a∈ρ') (hf:∀ r w y,VR G ρ' H (.ref r) w→f r=some y→VR G ρ'' H y w∧y.lim n=true) {o o':Ob} {a:Addr} (h:OR G ρ' H a o) (e:o.jZ f=some o'):OR G ρ'' H a o'∧o'.lim n=true:=by
 cases o with
 | lst xs=>
  obtain ⟨ys,e1,rfl⟩:=Option.map_eq_some_iff.mp (show (iY f xs).map _=some o' from e)
  obtain ⟨vs,h1,h2⟩:=h
  obtain ⟨i1,i2⟩:=iQ hs hf xs vs ys h2 e1
  exact ⟨⟨vs,h1,i1⟩,i2⟩
 | dct ks xs=>
  obtain ⟨ys,e1,rfl⟩:=Option.map_eq_some_iff.mp (show (iY f xs).map _=some o' from e)
  obtain ⟨vs,h1,hk,h2⟩:=h
  obtain ⟨i1,i2⟩:=iQ hs hf xs _ ys h2 e1
  exact ⟨⟨vs,h1,hk,i1⟩,i2⟩
 | ins c ns xs=>
  obtain ⟨ys,e1,rfl⟩:=Option.map_eq_some_iff.mp (show (iY f xs).map _=some o' from e)
  obtain ⟨dx,vs,h1,hk,h2⟩:=h
  obtain ⟨i1,i2⟩:=iQ hs hf xs _ ys h2 e1
  exact ⟨⟨dx,vs,h1,hk,i1⟩,i2⟩
 | zU ks xs=>
  obtain ⟨ys,e1,rfl⟩:=Option.map_eq_some_iff.mp (show (iY f xs).map _=some o' from e)
  obtain ⟨vs,od,h1,hk,h2⟩:=h
  obtain ⟨i1,i2⟩:=iQ hs hf xs _ ys h2 e1
  exact ⟨⟨vs,od,h1,hk,i1⟩,i2⟩
theorem Vg (s:bf G ρ' H T) (hp:ρ'.take n=ρ''.take n) (hs:∀ a,a∈ρ''→a∈ρ') (hn:n≤ρ''.length) (h0:∀ r a,ρ'[r]? =some a→n≤r→r≠r0→a∉ρ''):∀ (k r:Nat) (w:V) (y:Vl),VR G ρ' H (.ref r) w→fI n r0 T k r=some y→VR G ρ'' H y w∧y.lim n=true
 | 0,r,w,y,h,e=>by
  unfold fI at e
  split at e
  ·rename_i hr
   cases e
   simp only [VR] at h ⊢
   obtain ⟨a,rfl,ha⟩:=h
   refine ⟨⟨a,rfl,?_⟩,by simp [Vl.lim,hr]⟩
   rw [← List.getElem?_take_of_lt (l:=ρ'') hr,← hp,List.getElem?_take_of_lt hr]
   exact ha
  ·cases e
 | k+1,r,w,y,h,e=>by
  unfold fI at e
  split at e
  ·rename_i hr
   cases e
   simp only [VR] at h ⊢
   obtain ⟨a,rfl,ha⟩:=h
   refine ⟨⟨a,rfl,?_⟩,by simp [Vl.lim,hr]⟩
   rw [← List.getElem?_take_of_lt (l:=ρ'') hr,← hp,List.getElem?_take_of_lt hr]
   exact ha
  ·rename_i hr
   split at e
   ·cases e
   ·rename_i hr0
    split at e
    ·rename_i o eo
     obtain ⟨o',e1,rfl⟩:=Option.map_eq_some_iff.mp e
     obtain ⟨a,rfl,ha,ho⟩:=s.ref h eo
     obtain ⟨i1,i2⟩:=Us hs (Vg s hp hs hn h0 k) ho e1
     have na:=h0 r a ha (by omega) hr0
     refine ⟨i1.inl na,?_⟩
     cases o'<;>exact i2
    ·cases e
-- from more references to fewer,for values that know only old ones
mutual
theorem VR.sub (hp:ρ'.take n=ρ''.take n) (hs:∀ a,a∈ρ''→a∈ρ'):∀ (x:Vl) (v:V),VR G ρ' H x v→x.lim n=true→VR G ρ'' H x v
 | .non,_,h,_ | .bl _,_,h,_ | .int _,_,h,_ | .str _,_,h,_=>by simpa only [VR] using h
 | .tup xs,v,h,l=>by
  simp only [VR] at h ⊢
  simp only [Vl.lim] at l
  obtain ⟨a,vs,e,h1,h2⟩:=h
  exact ⟨a,vs,e,h1.imp (fun q=>⟨q.1,fun z=>q.2 (hs a z)⟩) id,au.sub hp hs xs vs h2 l⟩
 | .lst xs,v,h,l=>by
  simp only [VR] at h ⊢
  simp only [Vl.lim] at l
  obtain ⟨a,vs,e,h1,h2⟩:=h
  exact ⟨a,vs,e,⟨h1.1,fun z=>h1.2 (hs a z)⟩,au.sub hp hs xs vs h2 l⟩
 | .dct ks xs,v,h,l=>by
  simp only [VR] at h ⊢
  simp only [Vl.lim] at l
  obtain ⟨a,vs,e,h1,hn,h2,h3⟩:=h
  exact ⟨a,vs,e,h1,fun z=>hn (hs a z),h2,au.sub hp hs xs _ h3 l⟩
 | .obj c ns xs,v,h,l=>by
  simp only [VR] at h ⊢
  simp only [Vl.lim] at l
  obtain ⟨a,dx,vs,e,h1,hn,h2,h3⟩:=h
  exact ⟨a,dx,vs,e,h1,fun z=>hn (hs a z),h2,au.sub hp hs xs _ h3 l⟩
 | .err c ns xs,v,h,l=>by
  simp only [VR] at h ⊢
  simp only [Vl.lim] at l
  obtain ⟨a,d,e,hg,q⟩:=h
  exact ⟨a,d,e,hg,q.imp id fun ⟨dd,fs,e1,h1,n,h2,h3⟩=>⟨dd,fs,e1,h1,fun z=>n (hs dd z),h2,au.sub hp hs xs _ h3 l⟩⟩
 | .ref r,v,h,l=>by
  simp only [VR] at h ⊢
  simp only [Vl.lim,decide_eq_true_eq] at l
  obtain ⟨a,e,h1⟩:=h
  exact ⟨a,e,by rw [← List.getElem?_take_of_lt (l:=ρ'') l,← hp,List.getElem?_take_of_lt l];exact h1⟩
theorem au.sub (hp:ρ'.take n=ρ''.take n) (hs:∀ a,a∈ρ''→a∈ρ'):∀ (xs:List Vl) (vs:List V),au G ρ' H xs vs→aV n xs=true→au G ρ'' H xs vs
 | [],_,h,_=>by simpa only [au] using h
 | x::xs,vs,h,l=>by
  simp only [au] at h ⊢
  simp only [aV,Bool.and_eq_true] at l
  obtain ⟨v,r,e,h1,h2⟩:=h
  exact ⟨v,r,e,VR.sub hp hs x v h1 l.1,au.sub hp hs xs r h2 l.2⟩
end
theorem OR.sub (hp:ρ'.take n=ρ''.take n) (hs:∀ a,a∈ρ''→a∈ρ') {a:Addr} {o:Ob} (h:OR G ρ' H a o) (l:o.lim n=true):OR G ρ'' H a o:=by
 cases o with
 | lst xs=>obtain ⟨vs,h1,h2⟩:=h;exact ⟨vs,h1,au.sub hp hs _ _ h2 l⟩
 | dct ks xs=>obtain ⟨vs,h1,h2,h3⟩:=h;exact ⟨vs,h1,h2,au.sub hp hs _ _ h3 l⟩
 | ins c ns xs=>obtain ⟨dx,vs,h1,h2,h3⟩:=h;exact ⟨dx,vs,h1,h2,au.sub hp hs _ _ h3 l⟩
 | zU ks xs=>obtain ⟨vs,od,h1,h2,h3⟩:=h;exact ⟨vs,od,h1,h2,au.sub hp hs _ _ h3 l⟩
end
end Oz
namespace Oz
open PySem L2 PyProof.Rows
section
variable {G:bB} {k n:Nat} {X:Cx} {M:aF} {W:WX} {f:Addr} {fd:FuncData} {ps ks:List Str} {q c m x:Str} {a b e:Expr} {es:List Expr} {ca cb:E} {cU kes:Es} {p pos cH aik:Pos} {dxs:List Vl} {dvs:List V} {mv:List Value} {kws:List Keyword} {nm:Option Str}
def Es.cat:Es→Es→Es
 | .nil,b=>b
 | .cons e a,b=>.cons e (a.cat b)
theorem Wd:∀ (a b:Es) (η:Sg) (S:Hs),evs M (a.cat b) η S=(evs M a η S).bind fun xs S1=>(evs M b η S1).bind fun ys S2=>.ok (xs++ys) S2
 | .nil,b,η,S=>by
  simp only [Es.cat,evs,Res.bind,List.nil_append]
  cases evs M b η S<;>rfl
 | .cons e a,b,η,S=>by
  simp only [Es.cat,evs]
  cases ev M e η S with
  | ok x S1=>
   simp only [Res.bind]
   rw [Wd a b η S1]
   cases evs M a η S1 with
   | ok xs S2=>simp only [Res.bind];cases evs M b η S2<;>rfl
   | exc x S2=>rfl
   | bad=>rfl
  | exc x S1=>rfl
  | bad=>rfl
theorem _root_.L2.PK.imp {X:Cx} {kws:List Keyword} {t t':TA} (h:PK X kws t) (k:∀ σ H Q,t' σ H Q→t σ H Q):PK X kws t':=⟨fun pos pins s σ H Q I q=>h.run pos pins s σ H Q I (k σ H Q q)⟩
theorem WT {C:Addr} {sp:Sp} {pins:List (Addr × Obj)} {σ:L2.St} {H:Hp} {s:Shared} {Q:VK} {us ws:List Value} {vs zs:List V} (mk:Mk X.K C f) (F:qu X.prog X.w X.K X.mg X.base k f fd ps sp) (hr:Room (k+1) X.A) (hg:X.A.guards=some []) (hb:KBn X.K fd ps (n+1) ks (fun us ws=>us++ws++mv) (fun vs zs=>vs++zs++dvs)) (tk:Takes X W)
  (I:Inv X pins σ H s) (r:Vals vs us) (rz:Vals zs ws) (l1:vs.length=n) (l2:zs.length=ks.length)
  (h:∀ x dx,H x=none→H dx=none→dx≠x→sp (.ref x::(vs++zs++dvs)) (upd (upd H dx (.own x)) x (.ins C dx [])) (fun v H2=>v=.non∧Q (.ref x) H2) (fun c d H'=>W c d σ H')) :
  wpAny (model X.prog X.w) X.A (call (.ref C) us (ks.zip ws)) (EP X pins σ Q) X.xe s:=by
 have q0:=h (s.heap.objs.size+1) s.heap.objs.size (I.hok.fresh (Nat.le_succ _)) (I.hok.fresh (Nat.le_refl _)) (Nat.ne_of_lt (Nat.lt_succ_self _))
 have J:=Inv.made (C:=C) I
 have r1:Vals (V.ref (s.heap.objs.size+1)::vs) (Value.ref (s.heap.objs.size+1)::us):=.cons rfl r
 have rr:=hb.rel r1 rz
 have n1:(Value.ref (s.heap.objs.size+1)::us).length=n+1:=by rw [List.length_cons,← r.length,l1]
 refine wpAny_call (make_map (f:=f) I.kIn mk.makes mk.init (beq_iff_eq.mp mk.fn) (codeAny_mono (F.run _ X.stack _ _ ⟨Value.ref (s.heap.objs.size+1)::us,ks.zip ws⟩ _ _ _ _ (hr.make C us (ks.zip ws)) (Bs hg)
  (J.env0.make C us (ks.zip ws)) (hb.to _ (Value.ref (s.heap.objs.size+1)::us) ws J.kIn n1 (rz.length.symm.trans l2)) rr q0) ?_))
 intro r' s' hq
 match r',hq with
 | .error e,hq=>exact raised (σ:=σ) tk J hq
 | .ok (.ret u),hq=>
  obtain ⟨v,H',J3,rv,ev,q3⟩:=J.after hq
  subst ev
  exact ⟨rv,V.ref (s.heap.objs.size+1),H',J3,rfl,q3⟩
 | .ok .next,hq=>exact hq.elim
 | .ok .brk,hq=>exact hq.elim
 | .ok .cont,hq=>exact hq.elim
theorem acT {ρ ρ0 ρ2:List Addr} {H H0 Hn H2:Hp} {S S0 T:Hs} {σ:L2.St} {Q:VK} {y:Addr} (s0:bf G ρ0 H0 S0) (st0:Step ρ0 H0 ρ H) (s:bf G ρ H S) (hy:H y=none) (keep:∀ a o,H a=some o→Hn a=some o)
  (h:PR G W σ ρ H (afF S.length T) (Cd G H0 Q)) (st:Step (ρ++[y]) Hn ρ2 H2) (s2:bf G ρ2 H2 T):Q (.ref y) H2:=by
 obtain ⟨τ,rfl⟩:=st.pre
 have yM:=s.len
 have yρ:y∉ρ:=s.free hy
 unfold afF at h
 split at h
 ·rename_i hl
  split at h
  ·rename_i o eo
   split at h
   ·rename_i o' e1
    have all:=List.all_eq_true.mp hl
    have hT:S.length≤T.length:=by rw [← yM,← s2.len,List.length_append,List.length_append];omega
    have lt:(T.take S.length).length=S.length:=by rw [List.length_take];omega
    have eT:T.take S.length++T.drop S.length=T:=List.take_append_drop _ _
    have eρ:ρ++[y]++τ=ρ++([y]++τ):=List.append_assoc ..
    rw [eρ] at s2
    have sc:bf G ρ H2 (T.take S.length):=bf.cut (τ:=[y]++τ) (T:=T.drop S.length) (by rw [eT];exact s2) (by rw [lt];exact yM) fun r o e=>by rw [lt];exact all o (List.mem_of_getElem? e)
    have Tr:Step ρ H ρ H2:=⟨List.prefix_refl _,fun a o e na=>st.keep a o (keep a o e) (fun z=>(List.mem_append.mp z).elim na fun z=>by rw [List.mem_singleton.mp z,hy] at e;cases e),fun a ha=>.inl ha,fun a od u e=>st.fz a od u (keep a _ e)⟩
    have ha:(ρ++([y]++τ))[S.length]? =some y:=by rw [List.getElem?_append_right (by omega),yM,Nat.sub_self];rfl
    have ho:=s2.at_ S.length o y eo ha
    have aτ:y∈ρ++([y]++τ):=List.mem_of_getElem? ha
    have CJ:∀ b,b∈ρ++[y]→b∈ρ++([y]++τ):=fun b hb=>(List.mem_append.mp hb).elim (fun z=>List.mem_append_left _ z) fun z=>by rw [List.mem_singleton.mp z];exact aτ
    have zG:(ρ++([y]++τ)).take S.length=(ρ++[y]).take S.length:=by rw [List.take_append_of_le_length (by omega),List.take_append_of_le_length (by omega)]
    obtain ⟨i1,i2⟩:=Us (ρ'':=ρ++[y]) (n:=S.length) CJ (Vg (r0:=S.length) s2 zG CJ (by simp;omega) (fun r' b hb hr' Km z=>by
     rcases List.mem_append.mp z with z | z
     ·obtain ⟨i,hi⟩:=List.getElem?_of_mem z
      have Th:(ρ++([y]++τ))[i]? =some b:=by rw [List.getElem?_append_left (aJ hi)];exact hi
      have:=(List.getElem?_inj (aJ Th) s2.nd).mp (Th.trans hb.symm)
      have:=aJ hi
      omega
     ·rw [List.mem_singleton.mp z] at hb
      exact Km ((List.getElem?_inj (aJ hb) s2.nd).mp (hb.trans ha.symm))) zQ) ho e1
    have q:=h ρ H2 Tr sc
    refine q y (none_of s0 s st0 hy) yρ (OR.less (τ:=[y]) i1 (by rw [yM];exact i2)) ⟨by rw [List.length_append,List.length_append,lt,yM];rfl,?_,fun r' u b hr' hb=> ?_⟩
    ·rw [List.nodup_append]
     exact ⟨s.nd,by simp,fun x hx z hz=>by rw [List.mem_singleton.mp hz];exact fun z=>yρ (z ▸ hx)⟩
    ·by_cases h1:r'<S.length
     ·rw [List.getElem?_append_left (by omega)] at hr'
      rw [List.getElem?_append_left (by omega)] at hb
      have TV:T[r']? =some u:=by rw [List.getElem?_take_of_lt h1] at hr';exact hr'
      have hb2:(ρ++([y]++τ))[r']? =some b:=by rw [List.getElem?_append_left (by omega)];exact hb
      exact OR.sub zG CJ (s2.at_ r' u b TV hb2) (all u (List.mem_of_getElem? hr'))
     ·have h2:r'=S.length:=by
       have:=aJ hr'
       rw [List.length_append,lt] at this
       simp at this
       omega
      subst h2
      have e3:u=o':=by
       rw [List.getElem?_append_right (by omega),lt] at hr'
       simpa using hr'.symm
      have e4:b=y:=by
       rw [List.getElem?_append_right (by omega),yM] at hb
       simpa using hb.symm
      subst e3 e4
      exact i1
   ·exact h.elim
  ·exact h.elim
 ·exact h.elim
theorem adz {ρ ρ0:List Addr} {H H0:Hp} {S S0:Hs} {σ:L2.St} {Q:VK} {r:Res Rv} {y dx:Addr} (s0:bf G ρ0 H0 S0) (st0:Step ρ0 H0 ρ H) (s:bf G ρ H S) (hy:H y=none) (Zj:H dx=none) (ne:dx≠y)
  (h:PR G W σ ρ H (Cj S r) (Cd G H0 Q)):PR G (fun cls d _ H'=>W cls d σ H') [] (ρ++[y]) (upd (upd H dx (.own y)) y (.ins (G.cl c) dx [])) r (okR G (upd (upd H dx (.own y)) y (.ins (G.cl c) dx [])) fun v H2=>v=.non∧Q (.ref y) H2):=by
 generalize hHn:upd (upd H dx (.own y)) y (.ins (G.cl c) dx [])=Hn
 have keep:∀ a o,H a=some o→Hn a=some o:=fun a o e=>by
  rw [← hHn,upd_ne (fun z=>by subst z;rw [hy] at e;cases e),upd_ne (fun z=>by subst z;rw [Zj] at e;cases e)]
  exact e
 have yρ:y∉ρ:=s.free hy
 have cutS:∀ {ρ2:List Addr} {H2:Hp},Step (ρ++[y]) Hn ρ2 H2→Step ρ H ρ H2:=fun {ρ2 H2} st=>⟨List.prefix_refl _,fun a o e na=>st.keep a o (keep a o e) (fun z=>(List.mem_append.mp z).elim na fun z=>(by rw [List.mem_singleton.mp z,hy] at e;cases e)),fun a ha=>Or.inl ha,fun a od u e=>st.fz a od u (keep a _ e)⟩
 cases r with
 | bad=>exact h
 | exc x' T=>
  simp only [Cj] at h
  split at h
  ·rename_i hc
   refine fun ρ2 H2 st s2=> ?_
   obtain ⟨τ,rfl⟩:=st.pre
   have lt:(T.take S.length).length=S.length:=by rw [List.length_take];omega
   have eT:T.take S.length++T.drop S.length=T:=List.take_append_drop _ _
   have all:=List.all_eq_true.mp hc.2.1
   have sc:bf G ρ H2 (T.take S.length):=bf.cut (τ:=[y]++τ) (T:=T.drop S.length) (by rw [eT,← List.append_assoc];exact s2) (by rw [lt];exact s.len) fun r o e=>by rw [lt];exact all o (List.mem_of_getElem? e)
   have q:=h ρ H2 (cutS st) sc
   have hx:=hc.2.2
   unfold XW at q ⊢
   unfold Xc.lim at hx
   split at q
   ·exact q
   ·rename_i ns vs e
    exact fun d fs h1 h2 h3 h4=>q d fs h1 (fun z=>h2 (List.mem_append_left _ (List.mem_append_left _ z))) h3 (au.less (τ:=[y]++τ) _ _ (by rw [← List.append_assoc];exact h4) (by rw [s.len];have z:=hx;rw [e] at z;exact z))
  ·exact h.elim
 | ok rv T=>
  cases rv with
  | frs o=>exact h.elim
  | val v=>
   cases v with
   | non=>
    simp only [Cj] at h
    split at h
    ·rename_i o eo
     split at h
     ·rename_i hc
      refine fun ρ2 H2 st s2=> ?_
      have e2:ρ2=ρ++[y]:=oX st.pre (by rw [s2.len,hc.1,List.length_append,s.len];rfl)
      subst e2
      have hT:T≠[]:=fun z=>by rw [z] at eo;cases eo
      have eT:T.dropLast++[o]=T:=by
       rw [List.getLast?_eq_getLast hT] at eo
       rw [← Option.some.inj eo]
       exact List.dropLast_concat_getLast hT
      have ld:T.dropLast.length=S.length:=by rw [List.length_dropLast,hc.1];rfl
      have all:=List.all_eq_true.mp hc.2
      have s2':bf G (ρ++[y]) H2 (T.dropLast++[o]):=by rw [eT];exact s2
      have sc:bf G ρ H2 T.dropLast:=bf.cut (τ:=[y]) (T:=[o]) s2' (by rw [ld];exact s.len) fun r u e=>by
       rw [ld];exact all u (by rw [← eT];exact List.mem_append_left _ (List.mem_of_getElem? e))
      have q:=h ρ H2 (cutS st) sc
      have lo:o.lim ρ.length=true:=by rw [s.len];exact all o (by rw [← eT];simp)
      have hr:(ρ++[y])[T.dropLast.length]? =some y:=by rw [ld,← s.len];simp
      intro v hv
      simp only [VR] at hv
      exact ⟨hv,q y (none_of s0 s st0 hy) yρ (OR.less (s2'.at_ T.dropLast.length o y (by simp) hr) lo) s2'⟩
     ·refine fun ρ2 H2 st s2 v hv=> ?_
      simp only [VR] at hv
      exact ⟨hv,acT s0 st0 s hy keep h st s2⟩
    ·exact h.elim
   | _=>exact h.elim
def tNw (G:bB) (M:aF) (c:Str) (W:WX) (n m:Nat) (cU kes:Es) (dxs:List Vl):TE:=fun σ H Q=>∃ ρ η S,bf G ρ H S∧ER G ρ H η σ∧PR G W σ ρ H (evs M cU η S) fun ρ1 H1 xs S1=>xs.length=n∧PR G W σ ρ1 H1 (evs M kes η S1) fun ρ2 H2 ys S2=>ys.length=m∧
 PR G W σ ρ2 H2 (Cj S2 (M.cal (dot c "__init__") (.ref S2.length::(xs++ys++dxs)) (S2++[.ins c [] []]))) (Cd G H Q)
theorem ZL {σ:L2.St} {H:Hp} {Q:VK} (hn:cU.len=n) (hk:kes.len=ks.length) (h:tF G M W (.new c ((cU.cat kes).app dxs)) σ H Q):tNw G M c W n ks.length cU kes dxs σ H Q:=by
 obtain ⟨ρ,η,S,s0,r,h⟩:=h
 simp only [d9] at h
 rw [qH,Wd] at h
 refine ⟨ρ,η,S,s0,r,?_⟩
 cases e1:evs M cU η S with
 | ok xs S1=>
  rw [e1] at h
  simp only [Res.bind] at h
  refine fun ρ1 H1 st s=>⟨by rw [mO _ _ _ _ _ e1];exact hn,?_⟩
  have h:=PR.step h st
  cases e2:evs M kes η S1 with
  | ok ys S2=>
   rw [e2] at h
   exact fun ρ2 H2 st2 s2=>⟨by rw [mO _ _ _ _ _ e2];exact hk,PR.step h st2⟩
  | exc x S2=>rw [e2] at h;exact h
  | bad=>rw [e2] at h;exact h
 | exc x S1=>rw [e1] at h;exact h
 | bad=>rw [e1] at h;exact h
theorem Y8 {ρ:List Addr} {H:Hp} {S:Hs} {y dx:Addr} (s:bf G ρ H S) (hy:H y=none) (Zj:H dx=none) (ne:dx≠y):Step ρ H (ρ++[y]) (upd (upd H dx (.own y)) y (.ins (G.cl c) dx []))∧bf G (ρ++[y]) (upd (upd H dx (.own y)) y (.ins (G.cl c) dx [])) (S++[.ins c [] []]):=by
 have sm:Same H (upd H dx (.own y)):=fK Zj
 have hy2:(upd H dx (.own y)) y=none:=by rw [upd_ne (Ne.symm ne)];exact hy
 have s1:=s.same sm
 have bU:Step ρ H ρ (upd H dx (.own y)):=bu sm
 have s2:=s1.new (u:=.ins (G.cl c) dx []) (o:=.ins c [] []) hy2 ⟨dx,[],upd_same,rfl,au.nil⟩
 exact ⟨bU.trans ((bu (fK hy2)).one hy2),s2⟩
theorem Ue {ρ ρ0:List Addr} {H H0:Hp} {S S0:Hs} {σ:L2.St} {Q:VK} {xs:List Vl} {vs:List V} {y dx:Addr} (s0:bf G ρ0 H0 S0) (st0:Step ρ0 H0 ρ H) (s:bf G ρ H S) (hy:H y=none) (Zj:H dx=none) (ne:dx≠y) (hv:au G ρ H xs vs) (hl:xs.length+1=n)
  (h:PR G W σ ρ H (Cj S (M.cal (dot c "__init__") (.ref S.length::xs) (S++[.ins c [] []]))) (Cd G H0 Q)):spI G M n (dot c "__init__") (.ref y::vs) (upd (upd H dx (.own y)) y (.ins (G.cl c) dx [])) (fun v H2=>v=.non∧Q (.ref y) H2) (fun c d H'=>W c d σ H'):=by
 obtain ⟨st,sn⟩:=Y8 (c:=c) s hy Zj ne
 refine ⟨by rw [List.length_cons,← hv.length];exact hl,ρ++[y],S++[.ins c [] []],.ref S.length::xs,sn,au.cons ?_ (hv.step st),adz s0 st0 s hy Zj ne h⟩
 simp only [VR]
 exact ⟨y,rfl,by rw [← s.len];simp⟩
theorem ahB [bT G X] (g:Good G (k+1) X) (F:qu X.prog X.w X.K X.mg X.base k f fd ps (spI G M (n+1+dxs.length) (dot c "__init__"))) (mk:Mk X.K (G.cl c) f) (hg:Gl X x) (hm:X.mg x=some (.ref (G.cl c))) (hb:KBn X.K fd ps (n+1) [] (fun us ws=>us++ws++mv) (fun vs zs=>vs++zs++dvs)) (hc:Az G dxs dvs) (tk:Takes X W)
  (ha:PA X (e::es) (tA G M W cU)) (hn:cU.len=n) (sX:(x==("__debug__":Str))=false:=by decide) (he:starEach (e::es) X.env=(false,eval e X.env)::starEach es X.env:=by rfl) (jt:(backTo pos (starEach es X.env)).any (·.1)=false:=by rfl) :
  PE X (.Call (.Name x p) (e::es) [] pos) (tF G M W (.new c (cU.app dxs))):=by
 refine ⟨fun pins s σ H Q I h0=> ?_⟩
 have afI:cU.cat .nil=cU:=by
  have:∀ c:Es,c.cat .nil=c:=fun c=>by
   induction c using Es.rec (motive_1:=fun _=>True) (motive_2:=fun _=>True) (motive_3:=fun _=>True) (motive_5:=fun _=>True)<;>first | trivial | rfl | (simp only [Es.cat];rename_i ih;rw [ih])
  exact this cU
 obtain ⟨ρ,η,S,s0,r,h⟩:=ZL (ks:=[]) (kes:=.nil) hn rfl (by rw [afI];exact h0)
 refine wpAny_Call_Name_kw (ld_glob I hg hm ?_ sX)
 refine PySem.W.callWith_K (h₀:=X.base) I.ok.mod.kin mk.kp (thn (ha.run pos pins s σ H (fun vs H1=>∃ xs ρ1 S1,Step ρ H ρ1 H1∧bf G ρ1 H1 S1∧au G ρ1 H1 xs vs∧xs.length=n∧PR G W σ ρ1 H1 (evs M .nil η S1) fun ρ2 H2 ys S2=>ys.length=0∧
  PR G W σ ρ2 H2 (Cj S2 (M.cal (dot c "__init__") (.ref S2.length::(xs++ys++dxs)) (S2++[.ins c [] []]))) (Cd G H Q)) I ⟨ρ,η,S,s0,r,h.mono fun ρ1 H1 xs S1 bU s1 h1 vs hv=>⟨xs,ρ1,S1,bU,s1,hv,h1⟩⟩) fun us s1 ⟨vs,H1,I1,rv,xs,ρ1,S1,bU,sm1,hv,hl,hp⟩=>⟨I1.kIn,?_⟩) he jt
 simp only [evs] at hp
 obtain ⟨_,zG⟩:=hp.here sm1
 rw [List.append_nil] at zG
 refine WT (ks:=[]) (ws:=[]) (zs:=[]) mk F g.rm g.Mf hb tk I1 rv .nil (by rw [← hv.length];exact hl) rfl fun y dx hy Zj ne=> ?_
 rw [List.append_nil]
 exact Ue s0 bU sm1 hy Zj ne (hv.append (hc _ _)) (by simp only [List.length_append];omega) zG
end
structure zR (K:PySem.W.Frag) (C:Addr):Prop where
 cls:Cls K C
 ha:PySem.W.findIn K (.ref C) "__class__"=some (some (.builtin "object.__class__"))
 hn:PySem.W.specialIn K (.builtin "object.__class__") "__get__"=some (some (.builtin "getset_descriptor.__get__"))
 htk:PySem.W.takesIn K (.builtin "object.__class__")=some true
 hm:PySem.W.mroIn K C (.type "object")=some true
def tyT (G:bB) (S:Hs):Vl→Value
 | .non=>.type "NoneType" | .bl _=>.type "bool" | .int _=>.type "int" | .str _=>.type "str"
 | .tup _=>.type "tuple" | .lst _=>.type "list" | .dct _ _=>.type "dict" | .obj c _ _=>.ref (G.cl c) | .err _ _ _=>.none
 | .ref r=>match S[r]? with
  | some (.lst _)=>.type "list"
  | some (.dct _ _)=>.type "dict"
  | some (.ins c _ _)=>.ref (G.cl c)
  | some (.zU _ _)=>.type "dict"
  | none=>.none
section
variable {G:bB} {k n:Nat} {X:Cx} {M:aF} {W:WX} {f:Addr} {c:Str} {a b e:Expr} {es:List Expr} {ca cb:E} {cU kes:Es} {p pos:Pos}
theorem ae2 {ρ:List Addr} {H:Hp} {S:Hs} {x:Vl} {v:V} (he:G.er=none) (hC:∀ c,zR G.K (G.cl c)) (s:bf G ρ H S) (h:VR G ρ H x v):TyX G.K H v (tyT G S x):=by
 have ins:∀ {a C dx:Addr} {fs:List (Str × V)},(∃ c,C=G.cl c)→H a=some (.ins C dx fs)→TyX G.K H (.ref a) (.ref C):=fun ⟨c,e⟩ h=>by
  subst e
  exact .base (.ins h (hC c).cls (hC c).ha (hC c).hn (hC c).htk (hC c).hm)
 cases x with
 | non=>simp only [VR] at h;subst h;exact .base .non
 | bl d=>simp only [VR] at h;subst h;exact .base (.bl d)
 | int d=>simp only [VR] at h;subst h;exact .base (.int d)
 | str d=>simp only [VR] at h;subst h;exact .base (.str d)
 | tup xs=>
  simp only [VR] at h
  obtain ⟨p,vs,rfl,h1,_⟩:=h
  rcases h1 with ⟨h1 | ⟨o,h1⟩,_⟩ | (h1 | ⟨o,h1⟩) | ⟨o,its,n,h1,h2,_⟩
  ·exact .base (.tup h1)
  ·exact .fTuple h1
  ·cases h1
  ·cases h1
  ·exact .kTuple h1 h2
 | lst xs=>
  simp only [VR] at h
  obtain ⟨p,vs,rfl,⟨h1 | ⟨o,h1⟩,_⟩,_⟩:=h
  ·exact .base (.lst h1)
  ·exact .base (.frz h1)
 | dct ks xs=>
  simp only [VR] at h
  obtain ⟨p,kvs,rfl,h1,_⟩:=h
  rcases h1 with h1 | ⟨o,h1⟩
  ·exact .base (.dK h1)
  ·exact .fDict h1
 | obj c ns xs=>
  simp only [VR] at h
  obtain ⟨p,dx,fs,rfl,h1,_⟩:=h
  exact ins ⟨c,rfl⟩ h1
 | err c ns xs=>
  simp only [VR] at h
  obtain ⟨p,d,_,h1,_⟩:=h
  rw [he] at h1
  cases h1
 | ref r=>
  have h0:=h
  simp only [VR] at h
  obtain ⟨p,rfl,hr⟩:=h
  have hl:r<S.length:=by rw [← s.len];exact aJ hr
  have eo:S[r]? =some S[r]:=List.getElem?_eq_getElem hl
  obtain ⟨p',e,_,ho⟩:=s.ref h0 eo
  cases e
  unfold tyT
  simp only [eo]
  generalize S[r]=o at ho
  cases o with
  | lst xs=>obtain ⟨vs,h1,_⟩:=ho;exact .base (.lst h1)
  | dct ks xs=>obtain ⟨vs,h1,_⟩:=ho;exact .base (.dK h1)
  | ins c ns xs=>obtain ⟨dx,vs,h1,_⟩:=ho;exact ins ⟨c,rfl⟩ h1
  | zU ks xs=>obtain ⟨vs,od,h1,_⟩:=ho;exact .fDict h1
structure IsT (K:PySem.W.Frag) (u:Value) (d:Bool):Prop where
 non:PySem.W.kitOne K (.type "NoneType") u=some false
 bl:PySem.W.kitOne K (.type "bool") u=some false
 int:PySem.W.kitOne K (.type "int") u=some false
 str:PySem.W.kitOne K (.type "str") u=some false
 tup:PySem.W.kitOne K (.type "tuple") u=some false
 lst:PySem.W.kitOne K (.type "list") u=some false
 dct:PySem.W.kitOne K (.type "dict") u=some d
theorem aex {S:Hs} {x:Vl} {u:Value} (hx:∀ c ns xs,x≠.err c ns xs) (it:IsT G.K u true) (hi:∀ c,PySem.W.kitOne G.K (.ref (G.cl c)) u=some false) (hr:∀ r,x=.ref r→r<S.length):PySem.W.kitOne G.K (tyT G S x) u=some (aX S x).isSome:=by
 cases x with
 | non=>exact it.non
 | bl d=>exact it.bl
 | int d=>exact it.int
 | str d=>exact it.str
 | tup xs=>exact it.tup
 | lst xs=>exact it.lst
 | dct ks xs=>exact it.dct
 | obj c ns xs=>exact hi c
 | err c ns xs=>exact absurd rfl (hx c ns xs)
 | ref r=>
  obtain ⟨o,eo⟩:∃ o,S[r]? =some o:=⟨S[r]'(hr r rfl),List.getElem?_eq_getElem _⟩
  unfold tyT aX
  simp only [eo]
  cases o with
  | lst xs=>exact it.lst
  | dct ks xs=>exact it.dct
  | ins c ns xs=>exact hi c
  | zU ks xs=>exact it.dct
theorem adG {S:Hs} {x:Vl} {u:Value} (hx:∀ c ns xs,x≠.err c ns xs) (it:IsT G.K u false) (hr:∀ r,x=.ref r→r<S.length) (h:lD S x=none):PySem.W.kitOne G.K (tyT G S x) u=some false:=by
 cases x with
 | non=>exact it.non
 | bl d=>exact it.bl
 | int d=>exact it.int
 | str d=>exact it.str
 | tup xs=>exact it.tup
 | lst xs=>exact it.lst
 | dct ks xs=>exact it.dct
 | obj c ns xs=>simp [lD] at h
 | err c ns xs=>exact absurd rfl (hx c ns xs)
 | ref r=>
  obtain ⟨o,eo⟩:∃ o,S[r]? =some o:=⟨S[r]'(hr r rfl),List.getElem?_eq_getElem _⟩
  unfold lD at h
  unfold tyT
  simp only [eo] at h ⊢
  cases o with
  | lst xs=>exact it.lst
  | dct ks xs=>exact it.dct
  | ins c ns xs=>simp at h
  | zU ks xs=>exact it.dct
theorem Z7 {ρ:List Addr} {H:Hp} {S:Hs} {x:Vl} {v:V} (s:bf G ρ H S) (h:VR G ρ H x v):∀ r,x=.ref r→r<S.length:=fun r e=>by
 subst e
 simp only [VR] at h
 obtain ⟨p,_,hr⟩:=h
 rw [← s.len];exact aJ hr
theorem aca {ρ:List Addr} {H:Hp} {x:Vl} {v:V} (he:G.er=none) (h:VR G ρ H x v):∀ c ns xs,x≠.err c ns xs:=fun c ns xs e=>by
 subst e
 simp only [VR] at h
 obtain ⟨p,d,_,h1,_⟩:=h
 rw [he] at h1
 cases h1
theorem adl [bT G X] (g:Good G k X) (hC:∀ c,zR G.K (G.cl c)) (it:IsT G.K (.type "dict") true) (hi:∀ c,PySem.W.kitOne G.K (.ref (G.cl c)) (.type "dict")=some false) (hg:Gl X "isinstance") (hm:X.mg "isinstance"=none) (ha:PE X a (tE G M W ca)) (hb:PE X b (L2.tC (.ty "dict")))
  (hs:starEach [a,b] X.env=(false,eval a X.env)::starEach [b] X.env:=by rfl) (CJ:starEach [b] X.env=(false,eval b X.env)::starEach [] X.env:=by rfl) (jt:(backTo pos (starEach [b] X.env)).any (·.1)=false:=by rfl) :
  PE X (.Call (.Name "isinstance" p) [a,b] [] pos) (tE G M W (.isD ca)):=(pe_callB call_isi hg hm (by decide+kernel) (pa_cons ha (pa_cons hb pa_nil CJ) hs) (by decide) (by decide) hs jt).imp fun σ H Q ⟨ρ,η,S,s,r,h⟩=>⟨ρ,η,S,s,r,by
 simp only [ev] at h
 refine (PR.bind h).mono fun ρ1 H1 x S1 bU s1 h1 v hv=> ?_
 refine ⟨v,.ty "dict",_,.type "dict",_,rfl,.ty "dict",by rw [g.K];exact ae2 (bT.er X) hC s1 hv,by rw [g.K];exact aex (aca (bT.er X) hv) it hi (Z7 s1 hv),h1.here s1 _ (by simp only [VR])⟩⟩
theorem Mw [bT G X] (g:Good G k X) (hC:∀ c,zR G.K (G.cl c)) (it:IsT G.K (.ref (G.cl c)) false) (hi:PySem.W.kitOne G.K (.ref (G.cl c)) (.ref (G.cl c))=some true) (hg:Gl X "isinstance") (hm:X.mg "isinstance"=none) (ha:PE X a (tE G M W ca)) (hb:PE X b (L2.tC (.ref (G.cl c))))
  (hs:starEach [a,b] X.env=(false,eval a X.env)::starEach [b] X.env:=by rfl) (CJ:starEach [b] X.env=(false,eval b X.env)::starEach [] X.env:=by rfl) (jt:(backTo pos (starEach [b] X.env)).any (·.1)=false:=by rfl) :
  PE X (.Call (.Name "isinstance" p) [a,b] [] pos) (tE G M W (.isC c ca)):=(pe_callB call_isi hg hm (by decide+kernel) (pa_cons ha (pa_cons hb pa_nil CJ) hs) (by decide) (by decide) hs jt).imp fun σ H Q ⟨ρ,η,S,s,r,h⟩=>⟨ρ,η,S,s,r,by
 simp only [ev] at h
 refine (PR.bind h).mono fun ρ1 H1 x S1 bU s1 h1 v hv=> ?_
 split at h1
 ·rename_i d ns vs ei
  split at h1
  ·rename_i ed
   subst ed
   obtain ⟨a',dx,fs,rfl,h2,_⟩:=Ml s1 hv ei
   refine ⟨_,.ref (G.cl c),.ref (G.cl c),.ref (G.cl c),true,rfl,.own _,by rw [g.K];exact .base (.ins h2 (hC c).cls (hC c).ha (hC c).hn (hC c).htk (hC c).hm),by rw [g.K];exact hi,h1.here s1 _ (by simp only [VR])⟩
  ·exact h1.elim
 ·rename_i ei
  exact ⟨v,.ref (G.cl c),_,.ref (G.cl c),false,rfl,.own _,by rw [g.K];exact ae2 (bT.er X) hC s1 hv,by rw [g.K];exact adG (aca (bT.er X) hv) it (Z7 s1 hv) ei,h1.here s1 _ (by simp only [VR])⟩⟩
end
end Oz
namespace Oz
open PySem L2 PyProof.Rows
section
variable {P:Program} {w:World} {A:Around} {E:Value→Shared→Prop} {I:Addr} {fp wr:List Addr} {GG:Array GenState→Array GenState→Prop} {n:Nat} {Pv:Nat→Value→Prop} {St:Nat→Shared→Prop}
abbrev amP (s:Shared) (its:Array Value) (m:Nat) (Q:List Value→Shared→Prop):Prop:=∀ (s':Shared) (l:Addr) (h':Heap),(∀ b o,s.heap.get? b=some o→s'.heap.get? b=some o)→s'.gens=s.gens→s'.os=s.os→(∀ b o,s'.heap.get? b=some o→h'.get? b=some o)→s'.heap.objs.size≤l→h'.get? l=some { cls:=.type "list",data:=.seq (its.toList.drop m).toArray }→Q (its.toList.take m++[.ref l]) { s' with heap:=h' }
end
section
variable {G:bB} {k:Nat} {X:Cx} {M:aF} {W:WX} {pos p:Pos} {e:Expr} {ce:E}
def aig:List Nat→V2
 | []=>.nil
 | i::is=>.cons (.nm i) (aig is)
section
variable {G:bB} {k:Nat} {X:Cx} {M:aF} {W:WX} {pos:Pos}
def ak3 (G:bB) (M:aF) (W:WX):List Str→Es→List (TE × TE)
 | z::zs,.cons e es=>(L2.tC (.str z),tE G M W e)::ak3 G M W zs es
 | _,_=>[]
theorem adL {κ:Type} [DecidableEq κ] {kvs:List (κ × V)} {j:κ} {v:V} (h:j∉kvs.map (·.1)):putK kvs j v=kvs++[(j,v)]:=by
 unfold putK
 rw [if_neg]
 intro z
 obtain ⟨p,hp,e⟩:=List.any_eq_true.mp z
 exact h (List.mem_map.mpr ⟨p,hp,of_decide_eq_true e⟩)
theorem JN:∀ (more kvs:List (Key × V)),(kvs.map (·.1)++more.map (·.1)).Nodup→mergeK kvs more=kvs++more
 | [],kvs,_=>by simp [mergeK]
 | p::more,kvs,h=>by
  have hp:p.1∉kvs.map (·.1):=fun z=>(List.nodup_append.mp h).2.2 p.1 z p.1 (by simp) rfl
  show mergeK (putK kvs p.1 p.2) more=_
  rw [adL hp,JN more _ (by simpa using h)]
  simp
end
end
end Oz
namespace Oz
open PySem L2 PyProof.Rows
def lY (n:Nat) (T:Hs):Vl→Res Rv
 | .ref r=>if r<n then .ok (.val (.ref r)) (T.take n) else match T[r]? with
  | some o=>match o.jZ (fI n r T zQ) with
   | some o'=>.ok (.frs o') (T.take n)
   | none=>.bad
  | none=>.bad
 | v=>match v.jZ (fI n T.length T zQ) with
  | some v'=>.ok (.val v') (T.take n)
  | none=>.bad
def FJ (n:Nat) (r:Rv) (T:Hs):Res Rv:=if (T.take n).all (Ob.lim n)=true then (match r with
  | .val v=>lY n T v
  | .frs o=>lY n (T++[o]) (.ref T.length))
 else .ok r T
def fin2 (n:Nat) (r:Rv) (T:Hs):Res Rv:=match r with
 | .val (.tup [.ref a,.ref b])=>if n≤a∧n≤b∧a≠b∧(T.take n).all (Ob.lim n)=true then (match T[a]?,T[b]? with
   | some o,some u=>if o.lim n=true∧u.lim n=true then .ok (.val (.tup [.ref n,.ref (n+1)])) (T.take n++[o,u]) else .bad
   | _,_=>.bad) else .bad
 | r=>.ok r T
def adH (n:Nat) (x:Xc) (T:Hs):Res Rv:=if (T.take n).all (Ob.lim n)=true∧x.lim n=true then .exc x (T.take n) else .exc x T
structure jU where
 np:Nat
 nn:Nat
 body:Cs
 two:Bool:=false
noncomputable def gK (M:aF) (d:jU) (xs:List Vl) (S:Hs):Res Rv:=if xs.length=d.np then match exec M d.body (xs.map some++List.replicate (d.nn - xs.length) none) S with
 | .ret r T=>if d.two then fin2 S.length r T else FJ S.length r T
 | .nx _ T=>FJ S.length (.val .non) T
 | .exc x _ T=>adH S.length x T
 | _=>.bad
 else .bad
section
variable {G:bB} {ρ ρ':List Addr} {H H':Hp} {S T:Hs} {Q:VK}
theorem Nb {W:WX} {σ:L2.St} (s:bf G ρ H S) (st:Step ρ H ρ' H') (s':bf G ρ' H' T) (hl:(T.take S.length).all (Ob.lim S.length)=true) (v:Vl) (w:V) (hv:VR G ρ' H' v w)
  (h:PR G W σ ρ H (lY S.length T v) (okR G H Q)):Q w H':=by
 obtain ⟨τ,rfl⟩:=st.pre
 have yM:=s.len
 have all:=List.all_eq_true.mp hl
 have hT:S.length≤T.length:=by rw [← yM,← s'.len,List.length_append];omega
 have lt:(T.take S.length).length=S.length:=by rw [List.length_take];omega
 have eT:T.take S.length++T.drop S.length=T:=List.take_append_drop _ _
 have sc:bf G ρ H' (T.take S.length):=bf.cut (τ:=τ) (T:=T.drop S.length) (by rw [eT];exact s') (by rw [lt];exact yM) fun r o e=>by rw [lt];exact all o (List.mem_of_getElem? e)
 have Tr:Step ρ H ρ H':=⟨List.prefix_refl _,st.keep,fun a ha=>.inl ha,st.fz⟩
 -- a value that is no reference
 have val:∀ v',v.jZ (fI S.length T.length T zQ)=some v'→lY S.length T v=.ok (.val v') (T.take S.length)→Q w H':=fun v' e1 e2=>by
  rw [e2] at h
  have q:=h ρ H' Tr sc
  refine q w (W3 (ρ'':=ρ) (n:=S.length) (fun a ha=>List.mem_append_left _ ha) (Vg s' (by rw [List.take_append_of_le_length (by omega)]) (fun a ha=>List.mem_append_left _ ha) (by omega) (fun r a ha hr _=> ?_) zQ) v w v' hv e1).1
  intro ha2
  obtain ⟨i,hi⟩:=List.getElem?_of_mem ha2
  have Th:(ρ++τ)[i]? =some a:=by rw [List.getElem?_append_left (aJ hi)];exact hi
  have:=(List.getElem?_inj (aJ Th) s'.nd).mp (Th.trans ha.symm)
  have:=aJ hi
  omega
 cases v with
 | ref r=>
  by_cases hr:r<S.length
  ·have e:lY S.length T (.ref r)=.ok (.val (.ref r)) (T.take S.length):=by
    show (if r<S.length then (.ok (.val (.ref r)) (T.take S.length):Res Rv) else _)=_
    rw [if_pos hr]
   rw [e] at h
   exact h ρ H' Tr sc w (VR.less _ _ hv (by simp [Vl.lim,yM,hr]))
  ·have e:lY S.length T (.ref r)=match T[r]? with
     | some o=>match o.jZ (fI S.length r T zQ) with
      | some o'=>.ok (.frs o') (T.take S.length)
      | none=>.bad
     | none=>.bad:=by
    show (if r<S.length then (.ok (.val (.ref r)) (T.take S.length):Res Rv) else _)=_
    rw [if_neg hr]
   rw [e] at h
   split at h
   ·rename_i o eo
    split at h
    ·rename_i o' e1
     obtain ⟨a,rfl,ha,ho⟩:=s'.ref hv eo
     have aρ:a∉ρ:=fun z=>by
      obtain ⟨i,hi⟩:=List.getElem?_of_mem z
      have Th:(ρ++τ)[i]? =some a:=by rw [List.getElem?_append_left (aJ hi)];exact hi
      have:=(List.getElem?_inj (aJ Th) s'.nd).mp (Th.trans ha.symm)
      have:=aJ hi
      omega
     have aτ:a∈ρ++τ:=List.mem_of_getElem? ha
     have CJ:∀ b,b∈ρ++[a]→b∈ρ++τ:=fun b hb=>(List.mem_append.mp hb).elim (fun z=>List.mem_append_left _ z) fun z=>by rw [List.mem_singleton.mp z];exact aτ
     have zG:(ρ++τ).take S.length=(ρ++[a]).take S.length:=by rw [List.take_append_of_le_length (by omega),List.take_append_of_le_length (by omega)]
     obtain ⟨i1,i2⟩:=Us (ρ'':=ρ++[a]) (n:=S.length) CJ (Vg (r0:=r) s' zG CJ (by simp;omega) (fun r' b hb hr' Km z=>by
      rcases List.mem_append.mp z with z | z
      ·obtain ⟨i,hi⟩:=List.getElem?_of_mem z
       have Th:(ρ++τ)[i]? =some b:=by rw [List.getElem?_append_left (aJ hi)];exact hi
       have:=(List.getElem?_inj (aJ Th) s'.nd).mp (Th.trans hb.symm)
       have:=aJ hi
       omega
      ·rw [List.mem_singleton.mp z] at hb
       exact Km ((List.getElem?_inj (aJ hb) s'.nd).mp (hb.trans ha.symm))) zQ) ho e1
     have q:=h ρ H' Tr sc
     have hH:H a=none:=(st.new a aτ).elim (fun z=>(aρ z).elim) id
     refine q a hH aρ (OR.less (τ:=[a]) i1 (by rw [yM];exact i2)) ⟨by rw [List.length_append,List.length_append,lt,yM];rfl,?_,fun r' u b hr' hb=> ?_⟩
     ·rw [List.nodup_append]
      exact ⟨s.nd,by simp,fun x hx y hy=>by rw [List.mem_singleton.mp hy];exact fun z=>aρ (z ▸ hx)⟩
     ·by_cases h1:r'<S.length
      ·rw [List.getElem?_append_left (by omega)] at hr'
       rw [List.getElem?_append_left (by omega)] at hb
       have TV:T[r']? =some u:=by rw [List.getElem?_take_of_lt h1] at hr';exact hr'
       have hb2:(ρ++τ)[r']? =some b:=by rw [List.getElem?_append_left (by omega)];exact hb
       exact OR.sub zG CJ (s'.at_ r' u b TV hb2) (all u (List.mem_of_getElem? hr'))
      ·have h2:r'=S.length:=by
        have:=aJ hr'
        rw [List.length_append,lt] at this
        simp at this
        omega
       subst h2
       have e3:u=o':=by
        rw [List.getElem?_append_right (by omega),lt] at hr'
        simpa using hr'.symm
       have e4:b=a:=by
        rw [List.getElem?_append_right (by omega),yM] at hb
        simpa using hb.symm
       subst e3 e4
       exact i1
    ·exact h.elim
   ·exact h.elim
 | non=>exact val .non rfl rfl
 | bl b=>exact val (.bl b) rfl rfl
 | int b=>exact val (.int b) rfl rfl
 | str b=>exact val (.str b) rfl rfl
 | tup xs=>
  cases e:(Vl.tup xs).jZ (fI S.length T.length T zQ) with
  | some v'=>exact val v' e (by unfold lY;simp only [e])
  | none=>rw [show lY S.length T (.tup xs)=.bad by unfold lY;simp only [e]] at h;exact h.elim
 | lst xs=>
  cases e:(Vl.lst xs).jZ (fI S.length T.length T zQ) with
  | some v'=>exact val v' e (by unfold lY;simp only [e])
  | none=>rw [show lY S.length T (.lst xs)=.bad by unfold lY;simp only [e]] at h;exact h.elim
 | dct ks xs=>
  cases e:(Vl.dct ks xs).jZ (fI S.length T.length T zQ) with
  | some v'=>exact val v' e (by unfold lY;simp only [e])
  | none=>rw [show lY S.length T (.dct ks xs)=.bad by unfold lY;simp only [e]] at h;exact h.elim
 | obj c ns xs=>
  cases e:(Vl.obj c ns xs).jZ (fI S.length T.length T zQ) with
  | some v'=>exact val v' e (by unfold lY;simp only [e])
  | none=>rw [show lY S.length T (.obj c ns xs)=.bad by unfold lY;simp only [e]] at h;exact h.elim
 | err c ns xs=>
  cases e:(Vl.err c ns xs).jZ (fI S.length T.length T zQ) with
  | some v'=>exact val v' e (by unfold lY;simp only [e])
  | none=>rw [show lY S.length T (.err c ns xs)=.bad by unfold lY;simp only [e]] at h;exact h.elim
theorem ad2 {W:WX} {σ:L2.St} {D:Ends} {r:Rv} (s:bf G ρ H S) (h:PR G W σ ρ H (fin2 S.length r T) (okR G H D.rt)):PQ G W ρ H D (.ret r T):=by
 unfold fin2 at h
 split at h
 ·rename_i a b
  split at h
  ·rename_i hc
   obtain ⟨ha,hb,hab,hl⟩:=hc
   split at h
   ·rename_i o u eo eu
    split at h
    ·rename_i hlo
     intro ρ' H' st s' w hw
     obtain ⟨τ,rfl⟩:=st.pre
     have yM:=s.len
     have all:=List.all_eq_true.mp hl
     have hT:S.length≤T.length:=by rw [← yM,← s'.len,List.length_append];omega
     have lt:(T.take S.length).length=S.length:=by rw [List.length_take];omega
     have lg:∀ {i:Nat} {c:Addr},ρ[i]? =some c→(ρ++τ)[i]? =some c:=fun hi=>by rw [List.getElem?_append_left (aJ hi)];exact hi
     have nin:∀ {i:Nat} {c:Addr},S.length≤i→(ρ++τ)[i]? =some c→c∉ρ:=fun {i c} hi hic z=>by
      obtain ⟨j,hj⟩:=List.getElem?_of_mem z
      have:=(List.getElem?_inj (aJ (lg hj)) s'.nd).mp ((lg hj).trans hic.symm)
      have:=aJ hj
      omega
     simp only [VR,au] at hw
     obtain ⟨p,vs,rfl,ht,v1,r1,rfl,⟨a',rfl,ha'⟩,v2,r2,rfl,⟨b',rfl,hb'⟩,rfl⟩:=hw
     have na:=nin ha ha'
     have nb:=nin hb hb'
     have nab:a'≠b':=fun z=>hab ((List.getElem?_inj (aJ ha') s'.nd).mp (by rw [ha',hb',z]))
     have CJ:∀ c,c∈ρ++[a',b']→c∈ρ++τ:=fun c hc=>by
      rcases List.mem_append.mp hc with z | z
      ·exact List.mem_append_left _ z
      ·rcases List.mem_cons.mp z with z | z
       ·rw [z];exact List.mem_of_getElem? ha'
       ·rw [List.mem_singleton.mp z];exact List.mem_of_getElem? hb'
     have zG:(ρ++τ).take S.length=(ρ++[a',b']).take S.length:=by rw [List.take_append_of_le_length (by omega),List.take_append_of_le_length (by omega)]
     have oa:=OR.sub (n:=S.length) zG CJ (s'.at_ a o a' eo ha') hlo.1
     have ob:=OR.sub (n:=S.length) zG CJ (s'.at_ b u b' eu hb') hlo.2
     have alQ:bf G (ρ++[a',b']) H' (T.take S.length++[o,u]):=by
      refine ⟨by rw [List.length_append,List.length_append,lt,yM];rfl,?_,fun r' y c hr' hc=> ?_⟩
      ·rw [List.nodup_append]
       refine ⟨s.nd,by simp [nab],fun x hx y hy=> ?_⟩
       rcases List.mem_cons.mp hy with z | z
       ·rw [z];exact fun q=>na (q ▸ hx)
       ·rw [List.mem_singleton.mp z];exact fun q=>nb (q ▸ hx)
      ·by_cases h1:r'<S.length
       ·rw [List.getElem?_append_left (by omega)] at hr'
        rw [List.getElem?_append_left (by omega)] at hc
        have TV:T[r']? =some y:=by rw [List.getElem?_take_of_lt h1] at hr';exact hr'
        exact OR.sub zG CJ (s'.at_ r' y c TV (lg hc)) (all y (List.mem_of_getElem? hr'))
       ·rw [List.getElem?_append_right (by omega),lt] at hr'
        rw [List.getElem?_append_right (by omega),yM] at hc
        rcases hk:r' - S.length with _ | _ | k
        ·rw [hk] at hr' hc
         cases hr';cases hc
         exact oa
        ·rw [hk] at hr' hc
         cases hr';cases hc
         exact ob
        ·rw [hk] at hr'
         simp at hr'
     have stp:Step ρ H (ρ++[a',b']) H':=⟨List.prefix_append _ _,st.keep,fun c hc=>st.new c (CJ c hc),st.fz⟩
     refine h _ H' stp alQ (.ref p) ?_
     simp only [VR,au]
     refine ⟨p,_,rfl,ht.imp (fun q=>⟨q.1,fun z=>q.2 (CJ p z)⟩) id,_,_,rfl,⟨a',rfl,?_⟩,_,_,rfl,⟨b',rfl,?_⟩,rfl⟩
     ·rw [← yM,List.getElem?_append_right (by omega)];simp
     ·rw [← yM,List.getElem?_append_right (by omega)];simp
    ·exact h.elim
   ·exact h.elim
  ·exact h.elim
 ·exact fun ρ' H' st s'=>h ρ' H' st s'
theorem R4 {M:aF} {d:jU} {xs:List Vl} {E:XK} (s:bf G ρ H S) (hl:xs.length=d.np) (h:PR G (fun cls d _ H'=>E cls d H') [] ρ H (gK M d xs S) (okR G H Q)) :
  PQ G (fun cls d _ H'=>E cls d H') ρ H { nx:=fun _ H'=>Q .non H',rt:=Q } (exec M d.body (xs.map some++List.replicate (d.nn - xs.length) none) S):=by
 unfold gK at h
 rw [if_pos hl] at h
 have nT:∀ {ρ':List Addr} {H':Hp} {T:Hs},Step ρ H ρ' H'→bf G ρ' H' T→S.length≤T.length:=fun st s'=>by
  obtain ⟨τ,e⟩:=st.pre
  rw [← s.len,← s'.len,← e,List.length_append];omega
 cases eo:exec M d.body (xs.map some++List.replicate (d.nn - xs.length) none) S with
 | bad=>rw [eo] at h;exact h.elim
 | brk η T=>rw [eo] at h;exact h.elim
 | cnt η T=>rw [eo] at h;exact h.elim
 | nx η T=>
  rw [eo] at h
  simp only [FJ] at h
  refine fun ρ' H' σ' st s' _=> ?_
  split at h
  ·rename_i hc
   exact Nb s st s' hc .non .non (by simp only [VR]) h
  ·exact h ρ' H' st s' .non (by simp only [VR])
 | ret r T=>
  rw [eo] at h
  by_cases h2:d.two=true
  ·simp only [h2,if_true] at h
   exact ad2 s h
  simp only [h2] at h
  have h:PR G (fun cls d _ H'=>E cls d H') [] ρ H (FJ S.length r T) (okR G H Q):=h
  simp only [FJ] at h
  refine fun ρ' H' st s'=> ?_
  split at h
  ·rename_i hc
   cases r with
   | val v=>exact fun w hw=>Nb s st s' hc v w hw h
   | frs o=>
    refine fun p hp hn ho hs=> ?_
    have hle:=nT st s'
    refine Nb (T:=T++[o]) s (st.one hp) hs (by rw [List.take_append_of_le_length hle];exact hc) (.ref T.length) (.ref p) ?_ h
    simp only [VR]
    exact ⟨p,rfl,by rw [← s'.len];simp⟩
  ·exact h ρ' H' st s'
 | exc x η T=>
  rw [eo] at h
  simp only [adH] at h
  refine fun ρ' H' σ' st s' _=> ?_
  split at h
  ·rename_i hc
   have hle:=nT st s'
   obtain ⟨τ,rfl⟩:=st.pre
   have lt:(T.take S.length).length=S.length:=by rw [List.length_take];omega
   have eT:T.take S.length++T.drop S.length=T:=List.take_append_drop _ _
   have all:=List.all_eq_true.mp hc.1
   have sc:bf G ρ H' (T.take S.length):=bf.cut (τ:=τ) (T:=T.drop S.length) (by rw [eT];exact s') (by rw [lt];exact s.len) fun r o e=>by rw [lt];exact all o (List.mem_of_getElem? e)
   have q:=h ρ H' ⟨List.prefix_refl _,st.keep,fun a ha=>.inl ha,st.fz⟩ sc
   have hx:=hc.2
   unfold XW at q ⊢
   unfold Xc.lim at hx
   split at q
   ·exact q
   ·rename_i ns vs e
    exact fun d fs h1 h2 h3 h4=>q d fs h1 (fun z=>h2 (List.mem_append_left _ z)) h3 (au.less _ _ h4 (by rw [s.len];have z:=hx;rw [e] at z;exact z))
  ·have q:=h ρ' H' st s'
   unfold XW at q ⊢
   exact q
end
section
variable {G:bB} {P:Program} {w:World} {K:PySem.W.Frag} {mg:Str→Option Value} {base:Heap}
theorem G6 {ρ:List Addr} {H:Hp} {xs:List Vl} {vs:List V} {N:List Str} {nn:Nat} (hn:nn=N.length) (h:au G ρ H xs vs):ER G ρ H (xs.map some++List.replicate (nn - xs.length) none) (L2.start N vs) where
 len:=by unfold L2.start;simp [h.length,hn]
 at_:=fun i x e=>by
  unfold L2.start
  by_cases hi:i<xs.length
  ·rw [List.getElem?_append_left (by simpa using hi)] at e
   rw [List.getElem?_append_left (by simp [← h.length];exact hi)]
   rw [List.getElem?_map] at e ⊢
   cases ex:xs[i]? with
   | none=>rw [ex] at e;cases e
   | some y=>
    rw [ex] at e
    obtain ⟨v,e1,e2⟩:=h.get ex
    simp only [Option.map_some,Option.some.injEq] at e
    subst e
    exact ⟨v,by rw [e1];rfl,e2⟩
  ·rw [List.getElem?_append_right (by simp;omega)] at e
   rw [List.getElem?_replicate] at e
   split at e<;>simp at e
theorem ak8 {k:Nat} {f:Addr} {x bA q:Str} {params:Arguments} {body:List Stmt} {scope:Scope} {dvs:List V} {kws:List (Str × V)} {fd:FuncData} {N ps:List Str} {M M':aF} {d:jU} (F:FunD K x bA params body scope dvs kws f fd) (Sc:FnScope N ps scope)
  (hM:∀ xs S,M.cal q xs S=gK M' d xs S) (Rp:d.np=ps.length) (NK:d.nn=N.length)
  (pO:∀ (cI:Value) (A:Around) (outer:List Env) (s:Shared) (H:Hp) (E:XK),Room k (A.deeper (envOfC bA scope s.heap.objs.size f cI))→A.guards=some []→PSs (cxOf (L2.CX P w) P w K mg base N bA scope f cI A outer s H E) body (vL G M' (fun cls d _ H'=>E cls d H') d.body)) :
  qu P w K mg base (k+1) f fd ps (spI G M d.np q):=by
 obtain ⟨oc,od,dV,kV,wW,pm,an,cI,ct,XX,rfl,lk,Ab,_,_⟩:=F.ex
 refine ⟨fun vs H Q E h=>h.1.trans Rp,fun A outer s H args us vs Q E hr hgd e0 hb r Cp=> ?_⟩
 obtain ⟨BK,ρ,S,xs,sim,hxs,hp⟩:=Cp
 rw [hM] at hp
 have pl:vs.length=ps.length:=BK.trans Rp
 have tR:K.In s.heap:=e0.mod.kin.keeps fun b o e=>(e0.bs b o e).1
 have DG:s.heap.NoLimit:=e0.mod.nolimit.keeps fun b o e=>(e0.bs b o e).1
 refine codeAny_call_function hr.depth (tR _ _ lk) rfl Sc.co Sc.gen rfl (PySem.W.codeRec_of tR Ab) (hb _ _ _ _ (wpAny_newFunctionEnv_cells Sc.kind (fun ⟨n,v⟩ hy=>(Sc.par n (List.of_mem_zip hy).1).imp id fun z=>⟨z,PySem.W.cellsFrom_some _ _ _ (.inl z)⟩) fun env he s1 x=> ?_))
 subst he
 refine ⟨DG.keeps x.toInCall.keep,codeAny_func ?_⟩
 have wF:Inv (cxOf (L2.CX P w) P w K mg base N bA scope f cI A outer s H E) [] (L2.start N vs) H s1:=inv_start Sc hr.hd e0 pl r x
 have RL:=(pO cI A outer s H E (hr.deeper _) hgd).run [] s1 (L2.start N vs) H { nx:=fun _ H'=>Q .non H',rt:=Q } wF ⟨ρ,_,S,sim,G6 NK hxs,R4 sim (hxs.length.trans BK) hp⟩
 refine wpAny_mono RL (fun fl s' hs=> ?_) fun _ _ z=>z
 cases fl with
 | ret u=>obtain ⟨v,σ',H',J,rv,z⟩:=hs;exact ⟨v,H',J.os,J.bare,J.base,J.hok,rv,z⟩
 | next=>obtain ⟨σ',H',J,z⟩:=hs;exact ⟨.non,H',J.os,J.bare,J.base,J.hok,rfl,z⟩
 | brk=>obtain ⟨_,_,_,z⟩:=hs;exact z.elim
 | cont=>obtain ⟨_,_,_,z⟩:=hs;exact z.elim
end
end Oz
namespace Oz
open PySem L2 PyProof.Rows PySem.Spec
section
variable {α β:Type}
def sH (f:α→Str) (x:α):List α→List α
 | []=>[x]
 | y::ys=>if Ka (f y) (f x) then y::sH f x ys else x::y::ys
def sortBy (f:α→Str):List α→List α
 | []=>[]
 | x::xs=>sH f x (sortBy f xs)
theorem G9 (f:α→Str) (x:α):∀ ys:List α,(sH f x ys).Perm (x::ys)
 | []=>.refl _
 | y::ys=>by
  unfold sH
  split
  ·exact ((G9 f x ys).cons y).trans (.swap x y ys)
  ·exact .refl _
theorem ie (f:α→Str):∀ xs:List α,(sortBy f xs).Perm xs
 | []=>.refl _
 | x::xs=>(G9 f x _).trans ((ie f xs).cons x)
theorem KY (f:α→Str) (g:α→β) (k:β→Str) (h:∀ x,k (g x)=f x) (x:α):∀ ys:List α,sH k (g x) (ys.map g)=(sH f x ys).map g
 | []=>rfl
 | y::ys=>by
  simp only [List.map_cons,sH,h]
  split
  ·rw [List.map_cons,KY f g k h x ys]
  ·rfl
theorem j5 (f:α→Str) (g:α→β) (k:β→Str) (h:∀ x,k (g x)=f x):∀ xs:List α,sortBy k (xs.map g)=(sortBy f xs).map g
 | []=>rfl
 | x::xs=>by
  simp only [List.map_cons,sortBy]
  rw [j5 f g k h xs,KY f g k h x]
theorem Kz (x:Str):∀ ys:List Str,rN x ys=sH id x ys
 | []=>rfl
 | y::ys=>by simp only [rN,sH,id,Kz x ys]
theorem Hi:∀ xs:List Str,dN xs=sortBy id xs
 | []=>rfl
 | x::xs=>by simp only [dN,sortBy,Hi xs,Kz]
theorem Vm (x:Str × Vl):∀ ys:List (Str × Vl),adY x ys=sH (·.1) x ys
 | []=>rfl
 | y::ys=>by simp only [adY,sH,Vm x ys]
theorem Ii:∀ xs:List (Str × Vl),Q7 xs=sortBy (·.1) xs
 | []=>rfl
 | x::xs=>by simp only [Q7,sortBy,Ii xs,Vm]
theorem BW (f:α→Str) (xs:List α):(sortBy f xs).map f=dN (xs.map f):=by
 rw [Hi,j5 f f id (fun _=>rfl)]
theorem Ay (f:α→Str) (xs:List α):(sortBy f xs).Pairwise fun x y=>Df (f x) (f y):=by
 have h:=Do (xs.map f)
 rw [← BW] at h
 exact List.pairwise_map.mp h
theorem Mi {f:α→Str}:∀ {l:List α},(l.map f).Nodup→∀ x∈l,∀ y∈l,f x=f y→x=y
 | [],_,x,hx,_,_,_=>by cases hx
 | a::l,h,x,hx,y,hy,e=>by
  simp only [List.map_cons,List.nodup_cons] at h
  rcases List.mem_cons.mp hx with Iz | Iz<;>rcases List.mem_cons.mp hy with YT | YT
  ·rw [Iz,YT]
  ·subst Iz;exact absurd (List.mem_map.mpr ⟨y,YT,e.symm⟩) h.1
  ·subst YT;exact absurd (List.mem_map.mpr ⟨x,Iz,e⟩) h.1
  ·exact Mi h.2 x Iz y YT e
theorem uG {f:α→Str} {xs ys:List α} (nd:(xs.map f).Nodup) (p:ys.Perm xs) (h:ys.Pairwise fun x y=>Df (f x) (f y)):ys=sortBy f xs:=
 List.Perm.eq_of_pairwise (le:=fun x y=>Df (f x) (f y)) (fun x y hx hy h1 h2=>Mi nd x (p.mem_iff.mp hx) y ((ie f xs).mem_iff.mp hy) (yx h1 h2)) h (Ay f xs) (p.trans (ie f xs).symm)
end
def rkS (l:List Str) (z:Str):Int:=((dN l).idxOf z:Nat)
theorem afB {l:List Str} (nd:l.Nodup) {x y:Str} (hx:x∈l) (hy:y∈l):decide (x.cps.toList<y.cps.toList)=decide (rkS l x<rkS l y):=by
 have p:=Ao l
 have pw:=Do l
 have nd':(dN l).Nodup:=p.nodup_iff.mpr nd
 have Iz:=p.mem_iff.mpr hx
 have YT:=p.mem_iff.mpr hy
 have key:∀ a b,a∈dN l→b∈dN l→(dN l).idxOf a<(dN l).idxOf b→a.cps.toList<b.cps.toList:=fun a b ha hb h=>by
  have la:=List.idxOf_lt_length_of_mem ha
  have lb:=List.idxOf_lt_length_of_mem hb
  have q:=List.pairwise_iff_getElem.mp pw _ _ la lb h
  rw [List.getElem_idxOf la,List.getElem_idxOf lb] at q
  rcases Jl b a with r | r
  ·have e:=yx q r
   subst e;omega
  ·by_cases c:a.cps.toList<b.cps.toList
   ·exact c
   ·have e:=yx q (vK.mpr c)
    subst e;omega
 refine decide_eq_decide.mpr ⟨fun h=> ?_,fun h=> ?_⟩
 ·unfold rkS
  rcases Nat.lt_trichotomy ((dN l).idxOf x) ((dN l).idxOf y) with c | c | c
  ·omega
  ·have lx:=List.idxOf_lt_length_of_mem Iz
   have ly:=List.idxOf_lt_length_of_mem YT
   have e:x=y:=by
    rw [← List.getElem_idxOf lx,← List.getElem_idxOf ly]
    simp only [c]
   subst e
   exact absurd h (List.lt_irrefl _)
  ·exact absurd (key y x YT Iz c) (List.not_lt.mpr (List.le_of_lt h))
 ·refine key x y Iz YT ?_
  unfold rkS at h
  omega
def FQ (h:Heap) (v:Value) (y:Str):Prop:=∃ (a:Addr) (o:Obj) (n:Nat) (t:Tok) (b:Value),v=.ref a∧h.get? a=some o∧o.cls=.type "tuple"∧o.data=.seq #[.str y t,b] n
def cZ (h:Heap) (v:Value):Str:=match v with
 | .ref a=>match h.get? a with
  | some o=>match o.data with
   | .seq xs _=>match xs[0]? with
    | some (Value.str y _)=>y
    | _=>Str.empty
   | _=>Str.empty
  | none=>Str.empty
 | _=>Str.empty
theorem FQ.tx {h:Heap} {v:Value} {y:Str} (x:FQ h v y):cZ h v=y:=by
 obtain ⟨a,o,n,t,b,rfl,ho,hc,hd⟩:=x
 simp only [cZ,ho,hd]
 rfl
theorem FQ.keeps {h h':Heap} {v:Value} {y:Str} (x:FQ h v y) (k:∀ b o,h.get? b=some o→o.cls=.type "tuple"→h'.get? b=some o):FQ h' v y:=by
 obtain ⟨a,o,n,t,b,e,ho,hc,hd⟩:=x
 exact ⟨a,o,n,t,b,e,k _ _ ho hc,hc,hd⟩
section
variable {prog:Program} {w:World} {A:Around} {E:Value→Shared→Prop} {s:Shared}
theorem Lq {h:Heap}:∀ vs:List Value,(∀ v∈vs,∃ y,FQ h v y)→∃ fs:List Value,PySem.W.KatTups h vs fs∧fs.length=vs.length∧∀ f∈fs,∃ y t,f=Value.str y t
 | [],_=>⟨[],PySem.W.KatTups.nil,rfl,fun f hf=>by simp at hf⟩
 | v::vs,x=>by
  obtain ⟨fs,k,hl,hi⟩:=Lq vs fun u hu=>x u (List.mem_cons_of_mem _ hu)
  obtain ⟨y,a,o,n,t,b,rfl,ho,hc,hd⟩:=x v (List.mem_cons_self ..)
  refine ⟨.str y t::fs,PySem.W.KatTups.cons ho hc hd rfl k,by rw [List.length_cons,List.length_cons,hl],fun f hf=> ?_⟩
  rcases List.mem_cons.mp hf with rfl | hf
  ·exact ⟨y,t,rfl⟩
  ·exact hi f hf
theorem acN {vs:List Value} {ρ:Str→Int} (h2:2≤vs.length) (x:∀ v∈vs,∃ y,FQ s.heap v y) (R6:∀ v∈vs,∀ u∈vs,cZ s.heap v=cZ s.heap u→v=u)
  (hρ:∀ v∈vs,∀ u∈vs,decide ((cZ s.heap v).cps.toList<(cZ s.heap u).cps.toList)=decide (ρ (cZ s.heap v)<ρ (cZ s.heap u))) (Q:SortKind→Shared→Prop)
  (h:∀ κ,TS.Cmp prog w A s κ (pairsOf vs) (fun v=>ρ (cZ s.heap v))→Q κ s):wpAny (model prog w) A (keyKind' vs.toArray) Q E s:=by
 obtain ⟨fs,k,hl,hi⟩:=Lq vs x
 refine PySem.W.kat_kind (T:=Value.type "str") k (by omega) (fun f hf=> ?_) rfl (h _ ?_)
 ·obtain ⟨y,t,rfl⟩:=hi f hf
  exact PySem.W.Looks.of_pure rfl
 ·intro p q hp hq Q' E' hQ
  rw [pairsOf_toList] at hp hq
  have mp:=(PyProof.Rows.mem_zip_self hp).2
  have mq:=(PyProof.Rows.mem_zip_self hq).2
  obtain ⟨y,py⟩:=x _ mp
  obtain ⟨z,pz⟩:=x _ mq
  have hr:=hρ _ mp _ mq
  have hi:=R6 _ mp _ mq
  have hQ':Q' (decide (y.cps.toList<z.cps.toList)) s:=by
   rw [py.tx,pz.tx] at hr
   rw [hr]
   have hQ2:Q' (decide (ρ (cZ s.heap p.1)<ρ (cZ s.heap q.1))) s:=hQ
   rw [py.tx,pz.tx] at hQ2
   exact hQ2
  rw [py.tx,pz.tx] at hi
  obtain ⟨a,o,n,t,b,e1,ho,hc,hd⟩:=py
  obtain ⟨a',o',n',t',b',e2,ho',hc',hd'⟩:=pz
  rw [e1,e2] at hi
  rw [e1,e2]
  refine PySem.W.kat_lt ho hd ho' hd' ?_
  show PySem.W.KatLex prog w A _ false Q' [(Value.str y t,Value.str z t'),(b,b')] 0 s
  by_cases e:y=z
  ·have e3:a=a':=by
    have:=hi e
    injection this
   subst e3
   have e4:o=o':=by rw [ho] at ho';exact Option.some.inj ho'
   subst e4
   rw [hd] at hd'
   injection hd' with h5 _
   have e6:b=b':=by
    have:=congrArg (fun a=>a[1]?) h5
    simpa using this
   subst e e6
   have irr:decide (y.cps.toList<y.cps.toList)=false:=decide_eq_false (List.lt_irrefl _)
   rw [irr] at hQ'
   refine PySem.W.kat_cons (wpAny_eqBool_str ?_)
   rw [decide_eq_true rfl]
   refine PySem.W.kat_yes (PySem.W.kat_cons (SeqAt.EqAt.same b prog w _ _ ?_))
   exact PySem.W.kat_yes (PySem.W.kat_nil hQ')
  ·refine PySem.W.kat_cons (wpAny_eqBool_str ?_)
   rw [decide_eq_false e]
   exact PySem.W.kat_no (PyProof.Rows.oneLt_any_str hQ')
theorem O4 {l:Addr} {vs:List Value} {Q:List Value→Shared→Prop} (hl:s.heap.IsList l vs.toArray∨IsTup s.heap l vs.toArray)
  (h:Q vs { s with heap:=(s.heap.push (seqObj "list" #[] 0)).update s.heap.objs.size (Obj.mapSeq (·++vs.toArray)) }) (hsz:vs.length≤sizeLine) :
  wpAny (model prog w) A (collect (.ref l)) Q E s:=by
 rcases hl with hl | hl
 ·exact collect_list hl h hsz
 obtain ⟨o,ho,hc,n,hd⟩:=id hl
 unfold collect
 refine wpAny_bind (wpAny_runValue (codeAny_builtin entry_proto_collect' ?_))
 show wpAny _ _ (do again (.builtin "list.__iadd__" ⟨[← newList [],.ref l],[]⟩)) _ _ s
 refine wpAny_bind (wpAny_newList (wpAny_pure ⟨Code.quiet_builtin _ (by decide+kernel),codeAny_builtin entry_list_iadd' ?_⟩))
 show wpAny _ _ (Builtin.List.listExtendWith (.ref s.heap.objs.size) (.ref l) (.ref s.heap.objs.size)) _ _ { s with heap:=s.heap.push (seqObj "list" #[] 0) }
 unfold Builtin.List.listExtendWith
 have ho':(s.heap.push (seqObj "list" #[] 0)).get? l=some o:=Heap.get?_push_of_some _ ho
 refine wpAny_bind (wpAny_typeOf (T:="tuple") ⟨o,ho',hc⟩ ?_)
 have ht:(Value.type "tuple"==Value.type "tuple")=true:=by rfl
 rw [if_pos (by rw [ht];simp)]
 refine wpAny_bind (listItems_at ho' hd ?_)
 refine wpAny_bind (listItems_at (xs:= #[]) (n:=0) (Heap.get?_push_size _ rfl) rfl ?_)
 rw [if_neg (by simp)]
 refine wpAny_bind (listUpdate_at (xs:= #[]) (n:=0) (Heap.get?_push_size _ rfl) rfl ?_ (Nat.zero_le _) (by show (#[]++vs.toArray).size≤sizeLine+1;simp only [Array.size_append,List.size_toArray,List.length_nil];omega))
 refine wpAny_pure ?_
 show wpAny (model prog w) A (do
   let o ← load s.heap.objs.size
   match o.data with
   | .seq xs _=>pure xs.toList
   | _=>unsupported "internal:collect") Q E { s with heap:=(s.heap.push (seqObj "list" #[] 0)).update s.heap.objs.size (Obj.mapSeq (·++vs.toArray)) }
 refine wpAny_bind (wpAny_load (get?_update_seq (Heap.get?_push_size _ rfl) _) ?_)
 show wpAny _ _ (pure ((#[]:Array Value)++vs.toArray).toList) Q E _
 rw [show ((#[]:Array Value)++vs.toArray).toList=vs by simp]
 exact wpAny_pure h
theorem Gm {h h':Heap} {v:Value} {y:Str} (x:FQ h v y) (k:∀ b o,h.get? b=some o→o.cls=.type "tuple"→h'.get? b=some o):cZ h' v=cZ h v:=by rw [x.tx,(x.keeps k).tx]
theorem adV {a:Addr} {vs:List Value} {n:Nat} {P:PySem.Fin→Shared→Prop} (ρ:Str→Int) (ho:s.heap.get? a=some (seqObj "list" vs.toArray n)) (h64:vs.length<64) (x:∀ v∈vs,∃ y,FQ s.heap v y) (R6:∀ v∈vs,∀ u∈vs,cZ s.heap v=cZ s.heap u→v=u)
  (hρ:∀ v∈vs,∀ u∈vs,decide ((cZ s.heap v).cps.toList<(cZ s.heap u).cps.toList)=decide (ρ (cZ s.heap v)<ρ (cZ s.heap u)))
  (h:∀ out:Array Value,out.toList.Perm vs→out.toList.Pairwise (fun u v=>ρ (cZ s.heap u)≤ρ (cZ s.heap v))→P (.done (.ret .none)) { s with heap:=sortedHeap s.heap a vs out }) :
  wpAny (model prog w) A (Builtin.«list.sort» ⟨[.ref a],[]⟩) P E s:=by
 have keep:∀ b o,s.heap.get? b=some o→o.cls=.type "tuple"→(TS.midHeap s.heap a vs).get? b=some o:=fun b o e hc=>by
  refine TS.midHeap_old ?_ e
  rintro rfl
  rw [ho] at e
  have e':seqObj "list" vs.toArray n=o:=Option.some.inj e
  rw [← e'] at hc
  have c':Value.type "list"=Value.type "tuple":=hc
  injection c' with c''
  exact absurd c'' (by decide)
 have tk:∀ v∈vs,cZ (TS.midHeap s.heap a vs) v=cZ s.heap v:=fun v hv=>by
  obtain ⟨y,py⟩:=x v hv
  exact Gm py keep
 refine SK.plain_sort (r:=fun v=>ρ (cZ s.heap v)) ho h64 (fun h2 Q hQ=> ?_) fun ps out h1 h2 h3=> ?_
 ·refine acN (s:={ s with heap:=TS.midHeap s.heap a vs }) (ρ:=ρ) h2 (fun v hv=>let ⟨y,py⟩:=x v hv;⟨y,py.keeps keep⟩) (fun v hv u hu e=>R6 v hv u hu (by rw [← tk v hv,← tk u hu];exact e)) (fun v hv u hu=>by
   show decide ((cZ (TS.midHeap s.heap a vs) v).cps.toList<(cZ (TS.midHeap s.heap a vs) u).cps.toList)=decide (ρ (cZ (TS.midHeap s.heap a vs) v)<ρ (cZ (TS.midHeap s.heap a vs) u))
   rw [tk v hv,tk u hu];exact hρ v hv u hu) Q (fun κ hκ=>hQ κ ?_)
  intro p q hp hq Q' E' hq'
  refine hκ p q hp hq Q' E' ?_
  rw [pairsOf_toList] at hp hq
  have e1:=tk _ (PyProof.Rows.mem_zip_self hp).2
  have e2:=tk _ (PyProof.Rows.mem_zip_self hq).2
  show Q' (decide (ρ (cZ (TS.midHeap s.heap a vs) p.1)<ρ (cZ (TS.midHeap s.heap a vs) q.1))) _
  rw [e1,e2]
  exact hq'
 ·obtain ⟨p,o⟩:=TS.out_rank (r:=fun v=>ρ (cZ s.heap v)) h1 h2 h3
  exact h out p o
theorem Xz {l:Addr} {vs:List Value} {Q:Value→Shared→Prop} (ρ:Str→Int) (hl:s.heap.IsList l vs.toArray∨IsTup s.heap l vs.toArray) (h64:vs.length<64) (x:∀ v∈vs,∃ y,FQ s.heap v y) (R6:∀ v∈vs,∀ u∈vs,cZ s.heap v=cZ s.heap u→v=u)
  (hρ:∀ v∈vs,∀ u∈vs,decide ((cZ s.heap v).cps.toList<(cZ s.heap u).cps.toList)=decide (ρ (cZ s.heap v)<ρ (cZ s.heap u)))
  (h:∀ out:Array Value,out.toList.Perm vs→out.toList.Pairwise (fun u v=>ρ (cZ s.heap u)≤ρ (cZ s.heap v))→Q (.ref (s.heap.objs.size+1)) { s with heap:=sortedAll s.heap vs out }) :
  wpAny (model prog w) A (call (.builtin "sorted") [.ref l]) Q E s:=by
 refine Calls.call_function_entry kind_sorted plain_sorted entry_sorted (args_sorted1 _) ?_
 unfold Builtin.«sorted»
 refine wpAny_bind (m:=checkCount "sorted" 1 1 _) (wpAny_pure ?_)
 refine wpAny_bind (O4 hl ?_ (by rw [sizeLine_eq];omega))
 refine wpAny_bind (wpAny_newList ?_ (by rw [sizeLine_eq];omega))
 have hsz:((s.heap.push (seqObj "list" #[] 0)).update s.heap.objs.size (Obj.mapSeq (·++vs.toArray))).objs.size=s.heap.objs.size+1:=by
  rw [Heap.size_update,size_push']
 have hoL:(((s.heap.push (seqObj "list" #[] 0)).update s.heap.objs.size (Obj.mapSeq (·++vs.toArray))).push (seqObj "list" vs.toArray 0)).get? (s.heap.objs.size+1)=some (seqObj "list" vs.toArray 0):=by
  rw [← hsz];exact Heap.get?_push_size _ rfl
 have keep:∀ b o,s.heap.get? b=some o→o.cls=.type "tuple"→(((s.heap.push (seqObj "list" #[] 0)).update s.heap.objs.size (Obj.mapSeq (·++vs.toArray))).push (seqObj "list" vs.toArray 0)).get? b=some o:=fun b o q _=>by
  have Ze:b<s.heap.objs.size:=Heap.lt_size q
  rw [Heap.get?_push_ne _ _ _ (by rw [hsz];exact Nat.ne_of_lt (Nat.lt_succ_of_lt Ze)),Heap.get?_update_ne _ _ _ _ (Nat.ne_of_lt Ze),Heap.get?_push_ne _ _ _ (Nat.ne_of_lt Ze)]
  exact q
 have tk:=fun v hv=>let ⟨y,py⟩:=x v hv;Gm py keep
 show wpAny _ _ _ _ _ { s with heap:=((s.heap.push (seqObj "list" #[] 0)).update s.heap.objs.size (Obj.mapSeq (·++vs.toArray))).push (seqObj "list" vs.toArray 0) }
 rw [hsz]
 refine wpAny_bind (wpAny_holding (wpAny_call_entry slot_list_sort ⟨_,hoL,rfl⟩ entry_list_sort (adV ρ hoL h64 (fun v hv=>let ⟨y,py⟩:=x v hv;⟨y,py.keeps keep⟩) (fun v hv u hu e=>R6 v hv u hu (by rw [← tk v hv,← tk u hu];exact e)) (fun v hv u hu=> ?_) fun out a1 a2=>⟨_,rfl,?_⟩) (args_list_sort _)))
 ·show decide ((cZ (((s.heap.push (seqObj "list" #[] 0)).update s.heap.objs.size (Obj.mapSeq (·++vs.toArray))).push (seqObj "list" vs.toArray 0)) v).cps.toList<(cZ (((s.heap.push (seqObj "list" #[] 0)).update s.heap.objs.size (Obj.mapSeq (·++vs.toArray))).push (seqObj "list" vs.toArray 0)) u).cps.toList)=decide (ρ (cZ (((s.heap.push (seqObj "list" #[] 0)).update s.heap.objs.size (Obj.mapSeq (·++vs.toArray))).push (seqObj "list" vs.toArray 0)) v)<ρ (cZ (((s.heap.push (seqObj "list" #[] 0)).update s.heap.objs.size (Obj.mapSeq (·++vs.toArray))).push (seqObj "list" vs.toArray 0)) u))
  rw [tk v hv,tk u hu];exact hρ v hv u hu
 ·refine wpAny_pure ⟨_,rfl,h out a1 ?_⟩
  refine List.Pairwise.imp_of_mem (fun {u v} hu hv q=> ?_) a2
  have q':ρ (cZ (((s.heap.push (seqObj "list" #[] 0)).update s.heap.objs.size (Obj.mapSeq (·++vs.toArray))).push (seqObj "list" vs.toArray 0)) u)≤ρ (cZ (((s.heap.push (seqObj "list" #[] 0)).update s.heap.objs.size (Obj.mapSeq (·++vs.toArray))).push (seqObj "list" vs.toArray 0)) v):=q
  rw [tk u (a1.mem_iff.mp hu),tk v (a1.mem_iff.mp hv)] at q'
  exact q'
end
end Oz
namespace Oz
open PySem L2 PyProof.Rows
noncomputable def mach (kd:Str→Option (List (Str × Vl))) (ds:Str→Option jU) (fu:Nat) (sub:Str→Str→Option Bool) (xi:Str→Option (Option Str)):Nat→aF
 | 0=>⟨fun _ _ _=>.bad,kd,fu,sub,xi⟩
 | n+1=>⟨fun q xs S=>match ds q with
  | some d=>gK (mach kd ds fu sub xi n) d xs S
  | none=>.bad,kd,fu,sub,xi⟩
section
variable {kd:Str→Option (List (Str × Vl))} {ds:Str→Option jU} {fu n:Nat} {sub:Str→Str→Option Bool} {xi:Str→Option (Option Str)}
theorem bH {q:Str} {d:jU} (h:ds q=some d) (xs:List Vl) (S:Hs):(mach kd ds fu sub xi (n+1)).cal q xs S=gK (mach kd ds fu sub xi n) d xs S:=by
 simp only [mach,h]
theorem uJ:(mach kd ds fu sub xi n).sub=sub:=by cases n<;>rfl
theorem Nm:(mach kd ds fu sub xi n).xi=xi:=by cases n<;>rfl
end
theorem Good.le {G:bB} {j k:Nat} {X:Cx} (g:Good G k X) (h:j≤k):Good G j X:=⟨g.K,g.nd,g.room.mono h,g.Mf,g.er⟩
theorem G7 {X:Cx}:Takes X WF:=fun u s' ⟨_,_,_,_,_,_,_,_,_,_,_,_,_,_,_,_,w⟩=>w.elim
theorem Es.oN:∀ es:Es,es.app []=es
 | .nil=>by simp only [Es.app]
 | .cons e es=>by simp only [Es.app,Es.oN es]
section
variable {P:Program} {w:World} {K:PySem.W.Frag} {mg:Str→Option Value} {base:Heap} {G:bB} {M:aF} {W:WX} {X:Cx} {k n:Nat} {x q c m:Str} {a b e:Expr} {es:List Expr} {ca cb:E} {cU cs kes:Es} {p pos cH:Pos} {dxs:List Vl} {ks:List Str} {kws:List Keyword}
structure Cal (P:Program) (w:World) (K:PySem.W.Frag) (mg:Str→Option Value) (base:Heap) (G:bB) (M:aF) (k:Nat) (x q:Str) (n:Nat):Prop where
 ex:∃ (f:Addr) (fd:FuncData) (ps:List Str),qu P w K mg base k f fd ps (spI G M n q)∧mg x=some (.ref f)∧PySem.W.keepIn K (.ref f)=true∧Binds K fd ps []
structure Met (P:Program) (w:World) (K:PySem.W.Frag) (mg:Str→Option Value) (base:Heap) (G:bB) (M:aF) (k:Nat) (c m:Str) (n:Nat):Prop where
 ex:∃ (f:Addr) (fd:FuncData) (ps:List Str),qu P w K mg base k f fd ps (spI G M n (dot c m))∧Cls K (G.cl c)∧Meth K (G.cl c) m f∧Binds K fd ps []
structure Mak (P:Program) (w:World) (K:PySem.W.Frag) (mg:Str→Option Value) (base:Heap) (G:bB) (M:aF) (k:Nat) (x c:Str) (n:Nat) (ks:List Str) (dxs:List Vl):Prop where
 ex:∃ (f:Addr) (fd:FuncData) (ps:List Str) (mv:List Value) (dvs:List V),qu P w K mg base k f fd ps (spI G M (n+1+ks.length+dxs.length) (dot c "__init__"))∧Mk K (G.cl c) f∧mg x=some (.ref (G.cl c))∧KBn K fd ps (n+1) ks (fun us ws=>us++ws++mv) (fun vs zs=>vs++zs++dvs)∧Az G dxs dvs
structure EqM (P:Program) (w:World) (K:PySem.W.Frag) (mg:Str→Option Value) (base:Heap) (G:bB) (M:aF) (k:Nat) (c:Str):Prop where
 ex:∃ (f:Addr) (fd:FuncData) (ps:List Str),qu P w K mg base k f fd ps (spI G M 2 (dot c "__eq__"))∧EqC K (G.cl c) f∧Binds K fd ps []
structure LnM (P:Program) (w:World) (K:PySem.W.Frag) (mg:Str→Option Value) (base:Heap) (G:bB) (M:aF) (k:Nat) (c:Str):Prop where
 ex:∃ (f:Addr) (fd:FuncData) (ps:List Str),qu P w K mg base k f fd ps (spI G M 1 (dot c "__len__"))∧PySem.W.findIn K (.ref (G.cl c)) "__len__"=some (some (.ref f))∧PySem.W.isFn K (.ref f)=true∧Binds K fd ps []
theorem xv (i:Nat) (hN:X.N[i]? =some x:=by rfl) (hv:Vis X.env.scope x:=by first | exact Or.inl rfl | exact Or.inr (Or.inl rfl) | exact Or.inr (Or.inr rfl)) (hd:(x==("__debug__":Str))=false:=by decide) (Ab:(x==("__classdict__":Str))=false:=by decide):PE X (.Name x pos) (tE G M W (.var i)):=ad0 hN hv hd Ab
theorem aN {i:Int} {j:Nat}:PE X (.Constant (.int i) j pos) (tE G M W (.cst (.int i))):=zj pe_int fun _ _=>by simp only [VR]
theorem dF {z:Str} {j:Nat}:PE X (.Constant (.str z) j pos) (tE G M W (.cst (.str z))):=zj pe_str fun _ _=>by simp only [VR]
theorem uU {z:Bool} {j:Nat}:PE X (.Constant (.bool z) j pos) (tE G M W (.cst (.bl z))):=zj pe_bl fun _ _=>by simp only [VR]
theorem adN {j:Nat}:PE X (.Constant .none j pos) (tE G M W (.cst .non)):=zj pe_non fun _ _=>by simp only [VR]
theorem VP {u:Value} {v:V} {z:Vl} (hm:X.mg x=some u) (r:RelV v u) (hz:∀ ρ H,VR G ρ H z v) (hg:Gl X x:=by rfl) (hd:(x==("__debug__":Str))=false:=by decide):PE X (.Name x pos) (tE G M W (.cst z)):=zj (pe_glob hg hm r hd) hz
theorem abd {op:BoolOp} (h:PE X a (tE G M W ca)):PE X (.BoolOp op [a] pos) (tE G M W ca):=pe_one h
theorem gn (g:Good G k X) (i:Nat) (hi:X.N[i]? =some x:=by rfl) (hx:Loc X.env.scope x:=by first | exact Or.inl rfl | exact Or.inr rfl) (hf:X.fn x=true∨X.env.scope.names.lookup x=some .local:=by first | exact .inl rfl | exact .inr rfl | assumption):PG X (.Name x pos) (tG G (.nm i)):=ajN g i hi hx hf
theorem eE (ha:PE X a (tE G M W ca)) (hs:starEach [a] X.env=(false,eval a X.env)::starEach [] X.env:=by rfl):PA X [a] (tA G M W (.cons ca .nil)):=t7 ha gJ hs
theorem eQ (ha:PE X a (tE G M W ca)) (hr:PA X es (tA G M W cU)) (hs:starEach (a::es) X.env=(false,eval a X.env)::starEach es X.env:=by rfl):PA X (a::es) (tA G M W (.cons ca cU)):=t7 ha hr hs
theorem cv [bT G X] (g:Good G (k+1) X) (c:Cal X.prog X.w X.K X.mg X.base G M k x q n) (tk:Takes X W) (ha:PA X (e::es) (tA G M W cU)) (hn:cU.len=n:=by rfl) (hg:Gl X x:=by rfl) (sX:(x==("__debug__":Str))=false:=by decide) (he:starEach (e::es) X.env=(false,eval e X.env)::starEach es X.env:=by rfl) (jt:(backTo pos (starEach es X.env)).any (·.1)=false:=by rfl):PE X (.Call (.Name x p) (e::es) [] pos) (tE G M W (.call q cU)):=by
 obtain ⟨f,fd,ps,F,hm,hk,hb⟩:=c.ex
 refine (Qo g F hg hm hk (dxs:=[]) (dvs:=[]) hb .nil (fun _ _=>au.nil) tk ha sX he jt).imp fun σ H Q h=>CN (fun η S xs S1 h=> ?_) (by rw [Es.oN];exact h)
 rw [mO _ _ _ _ _ h,hn];rfl
theorem cf [bT G X] (g:Good G (k+1) X) (c:Cal X.prog X.w X.K X.mg X.base G M k x q n) (tk:Takes X W) (ha:PA X (e::es) (tA G M W cU)) (hn:cU.len=n:=by rfl) (hg:Gl X x:=by rfl) (sX:(x==("__debug__":Str))=false:=by decide) (he:starEach (e::es) X.env=(false,eval e X.env)::starEach es X.env:=by rfl) (jt:(backTo pos (starEach es X.env)).any (·.1)=false:=by rfl):PE X (.Call (.Name x p) (e::es) [] pos) (tF G M W (.call q cU)):=by
 obtain ⟨f,fd,ps,F,hm,hk,hb⟩:=c.ex
 refine (Qo g F hg hm hk (dxs:=[]) (dvs:=[]) hb .nil (fun _ _=>au.nil) tk ha sX he jt).imp fun σ H Q h=>aec (fun η S xs S1 h=> ?_) (by rw [Es.oN];exact h)
 rw [mO _ _ _ _ _ h,hn];rfl
theorem mv0 {pl:Sem Bool} [bT G X] (g:Good G (k+1) X) (cm:Met X.prog X.w X.K X.mg X.base G M k c m 1) (tk:Takes X W) (ha:PE X a (tE G M W ca))
  (ht:eval (.Call (.Attribute a m cH) [] [] pos) X.env=(do
   let ov ← eval a X.env
   standAt cH.atName
   let (f,first) ← holding [ov] (getMethod ov m pl)
   callWith pos f first (backTo pos (starEach [] X.env)) (backToKw pos (keywordEach [] X.env))):=by rfl):PE X (.Call (.Attribute a m cH) [] [] pos) (tE G M W (.Zf c m ca .nil)):=by
 obtain ⟨f,fd,ps,F,hC,hm,hb⟩:=cm.ex
 exact (adZ g F hC hm hb (dxs:=[]) (dvs:=[]) .nil (fun _ _=>au.nil) tk ha ht).imp fun σ H Q h=>Vv rfl (by rw [Es.oN];exact h)
theorem mv {pl:Sem Bool} [bT G X] (g:Good G (k+1) X) (cm:Met X.prog X.w X.K X.mg X.base G M k c m n) (tk:Takes X W) (ha:PE X a (tE G M W ca)) (hes:PA X (e::es) (tA G M W cU)) (hn:cU.len+1=n:=by rfl) (Rq:starEach (e::es) X.env=(false,eval e X.env)::starEach es X.env:=by rfl) (jt:(backTo pos (starEach es X.env)).any (·.1)=false:=by rfl)
  (ht:eval (.Call (.Attribute a m cH) (e::es) [] pos) X.env=(do
   let ov ← eval a X.env
   standAt cH.atName
   let (f,first) ← holding [ov] (getMethod ov m pl)
   callWith pos f first (backTo pos (starEach (e::es) X.env)) (backToKw pos (keywordEach [] X.env))):=by rfl):PE X (.Call (.Attribute a m cH) (e::es) [] pos) (tE G M W (.Zf c m ca cU)):=by
 obtain ⟨f,fd,ps,F,hC,hm,hb⟩:=cm.ex
 exact (ac6 g F hC hm hb (dxs:=[]) (dvs:=[]) .nil (fun _ _=>au.nil) tk ha hes Rq jt ht).imp fun σ H Q h=>Vv (by simpa using hn) (by rw [Es.oN];exact h)
theorem nw [bT G X] (g:Good G (k+1) X) (cm:Mak X.prog X.w X.K X.mg X.base G M k x c n [] dxs) (tk:Takes X W) (ha:PA X (e::es) (tA G M W cU)) (hn:cU.len=n:=by rfl) (hcs:cs=cU.app dxs:=by simp only [Es.app,Es.cat]<;>rfl) (hg:Gl X x:=by rfl) (sX:(x==("__debug__":Str))=false:=by decide) (he:starEach (e::es) X.env=(false,eval e X.env)::starEach es X.env:=by rfl) (jt:(backTo pos (starEach es X.env)).any (·.1)=false:=by rfl):PE X (.Call (.Name x p) (e::es) [] pos) (tF G M W (.new c cs)):=by
 obtain ⟨f,fd,ps,mv,dvs,F,mk,hm,hb,hc⟩:=cm.ex
 subst hcs
 exact ahB g F mk hg hm hb hc tk ha hn sX he jt
theorem ln [bT G X] (g:Good G (k+1) X) (cm:LnM X.prog X.w X.K X.mg X.base G M k c) (hm:X.mg "len"=none) (ha:PE X a (tE G M W ca)) (hg:Gl X "len":=by rfl) (Uo:starEach [a] X.env=[(false,eval a X.env)]:=by rfl) (he:starEach [a] X.env=(false,eval a X.env)::starEach [] X.env:=by rfl) (jt:(backTo pos (starEach [] X.env)).any (·.1)=false:=by rfl):PE X (.Call (.Name "len" p) [a] [] pos) (tE G M W (.agT c ca)):=by
 obtain ⟨f,fd,ps,F,hs,hf,hb⟩:=cm.ex
 exact adk g F hs hf hb hg hm ha Uo he jt
theorem eqv [bT G X] (g:Good G (k+3) X) (cm:EqM X.prog X.w X.K X.mg X.base G M k c) (ha:PE X a (tE G M W ca)) (hb2:PE X b (tE G M W cb)) (hm:behindInMarks .Eq b=false:=by exact nomark _):PE X (.Compare a [.Eq] [b] pos) (tE G M W (.oeq c false ca cb)):=by
 obtain ⟨f,fd,ps,F,ec,hb⟩:=cm.ex
 exact adx g F ec hb ha hb2 hm
theorem Zd (g:Good G k X) (op:CmpOp) (ha:PE X a (tE G M W ca)) (hb:PE X b (tE G M W cb)) (hm:behindInMarks op b=false:=by first | exact nomark _ | rfl):PE X (.Compare a [op] [b] pos) (tE G M W (.cmp op ca cb)):=acA g op ha hb hm
theorem mj (g:Good G k X) (op:CmpOp) (ha:PE X a (tE G M W ca)) (hb:PE X b (tE G M W cb)) (hm:behindInMarks op b=false:=by first | exact nomark _ | rfl):PT X (.Compare a [op] [b] pos) (tQ G M W (.cmp op ca cb)):=acR g op ha hb hm
theorem adF {o1 o2:CmpOp} {d:Expr} {cd:E} (g:Good G k X) (ha:PE X a (tE G M W ca)) (hb:PE X b (tE G M W cb)) (hd:PE X d (tE G M W cd)) (hm:lastMarks [o1,o2] [b,d]=false:=by rfl):PE X (.Compare a [o1,o2] [b,d] pos) (tE G M W (.Ru o1 o2 ca cb cd)):=acx g o1 o2 ha hb hd hm
theorem akB {o1 o2:CmpOp} {d:Expr} {cd:E} (g:Good G k X) (ha:PE X a (tE G M W ca)) (hb:PE X b (tE G M W cb)) (hd:PE X d (tE G M W cd)) (hm:lastMarks [o1,o2] [b,d]=false:=by rfl):PT X (.Compare a [o1,o2] [b,d] pos) (tQ G M W (.Ru o1 o2 ca cb cd)):=acC g o1 o2 ha hb hd hm
theorem tv (h:PE X e (tE G M W ca)) (he:∀ whole,isTrue e X.env whole=(do let v ← whole;standAt e.pos;holding [v] (truthy v)):=by intro _;rfl):PT X e (tQ G M W ca):=adP h he
theorem ix (g:Good G k X) (ha:PE X a (tE G M W ca)) (hb:PE X b (tE G M W cb)) (hs:PlainIx b:=by intro _ _;rfl):PE X (.Subscript a b pos) (tE G M W (.idx ca cb)):=aeo g ha hb hs
structure Kd (w:World) (K:PySem.W.Frag) (mg:Str→Option Value) (G:bB) (M:aF) (x:Str):Prop where
 ex:∃ (d:Addr) (kv:List (Str × Vl)),ahK G w d kv∧M.kd x=some kv∧mg x=some (.ref d)
end
end Oz
namespace Oz
open PySem PySem.Spec L2 PyProof.Rows
section
variable {X:Cx} {st:Stmt} {rest:List Stmt} {t t':TS} {e:Expr} {es:List Expr} {te te':TE} {ta ta':TA}
theorem PET.imp (h:PET X e te) (k:∀ σ H Q,te' σ H Q→te σ H Q):PET X e te':=fun pins s σ H Q h0 I q=>h pins s σ H Q h0 I (k σ H Q q)
theorem PAT.imp (h:PAT X es ta) (k:∀ σ H Q,ta' σ H Q→ta σ H Q):PAT X es ta':=fun pos pins s σ H Q h0 I q=>h pos pins s σ H Q h0 I (k σ H Q q)
theorem PST.imp (h:PST X st t) (k:∀ D σ H,t' D σ H→t D σ H):PST X st t':=fun pins s σ H D h0 I q=>h pins s σ H D h0 I (k D σ H q)
theorem PSsT.imp (h:PSsT X rest t) (k:∀ D σ H,t' D σ H→t D σ H):PSsT X rest t':=fun pins s σ H D h0 I q=>h pins s σ H D h0 I (k D σ H q)
theorem PET.of (h:PE X e te):PET X e te:=fun pins s σ H Q _ I q=>h.run pins s σ H Q I q
end
section
variable {G:bB} {M:aF} {W:WX} {X:Cx} {k:Nat} {a b e:Expr} {es:List Expr} {ca cb ce:E} {cf:F} {cU:Es} {c:C} {cs:Cs} {st:Stmt} {rest:List Stmt} {pos:Pos}
theorem xg (h1:PST X st (tC G M W c)) (h2:PSsT X rest (vL G M W cs)):PSsT X (st::rest) (vL G M W (.cons c cs)):=PSsT.imp (psst_cons h1 h2) fun D σ H ⟨ρ,η,S,s,r,h⟩=>⟨ρ,η,S,s,r,by
 simp only [exec] at h
 cases e:aP M c η S with
 | nx η1 S1=>
  rw [e] at h
  exact fun ρ1 H1 σ1 st s1 r1=>⟨ρ1,η1,S1,s1,r1,PQ.step s st s1 h⟩
 | _=>rw [e] at h;exact h⟩
theorem O2 (he:PET X e (tE G M W ce)):PST X (.Return (some e) pos) (tC G M W (.ret ce)):=PST.imp (CwR.pst_ret he) fun D σ H ⟨ρ,η,S,s,r,h⟩=>⟨ρ,η,S,s,r,by
 simp only [aP] at h
 refine (PQ.out s r h).mono fun ρ1 H1 x S1 st s1 h1 v hv=> ?_
 exact h1 ρ1 H1 (Step.refl _ _) s1 v hv⟩
theorem aeg {ct:Expr} {a b:List Stmt} {cc:E} {ca cb:Cs} (hc:PT X ct (tQ G M W cc)) (ha:PSsT X a (vL G M W ca)) (hb:PSsT X b (vL G M W cb)):PST X (.If ct a b pos) (tC G M W (.ite cc ca cb)):=PST.imp (CwR.pst_if hc ha hb) fun D σ H ⟨ρ,η,S,s,r,h⟩=>⟨ρ,η,S,s,r,by
 simp only [aP] at h
 refine (PQ.out s r h).mono fun ρ1 H1 x S1 st s1 h1=> ?_
 cases x with
 | bl b=>
  refine ⟨b,rfl,?_⟩
  cases b with
  | true=>exact ⟨ρ1,η,S1,s1,r.step st,h1⟩
  | false=>exact ⟨ρ1,η,S1,s1,r.step st,h1⟩
 | _=>exact h1.elim⟩
abbrev X3 (z0 z1 z2 z3:Str) (tk:Nat):Obj:={ cls:=.type "list",data:=.seq #[.str z0 (tk+1),.str z1 (tk+1+1),.str z2 (tk+1+1+1),.str z3 (tk+1+1+1+1)] 0 }
theorem Uv:PSsT X [] (vL G M W .nil):=PSsT.of PSs.aO
theorem ac7 (g:Good G k X) {i j:Nat} {x m:Str} {p1 p2:Pos} (h2:PSsT X rest (vL G M W cs)) (hi:X.N[i]? =some x:=by rfl) (hx:Loc X.env.scope x:=by first | exact Or.inl rfl | exact Or.inr rfl)
  (hs:swapsWith (.Constant (.str m) j p1) (some (.Name x p2)) pos.line X.env=pure false:=by rfl) (hf:X.fn x=true∨X.env.scope.names.lookup x=some .local:=by first | exact .inl rfl | exact .inr rfl | assumption) :
  PSs X (.Assign [.Name x p2] (.Constant (.str m) j p1) pos::rest) (vL G M W (.cons (.asg (.nm i) (.cst (.str m))) cs)):=(pss_str (i:=i) g.nd hi hx h2 hs hf).imp fun D σ H ⟨ρ,η,S,s,r,h⟩=>by
 simp only [exec,aP,ev,Res.out,aZ] at h
 exact ⟨ρ,_,S,s,r.set i (v:=.str m) (by simp only [VR]),h⟩
theorem ahc {ta tb:TE} {r:R2} (hr:IxR X r) (ha:PET X a ta) (hb:PE X b tb) (hs:PlainIx b):PET X (.Subscript a b pos) (tOp r ta tb):=by
 intro pins s σ H Q h0 I h
 exact Subscript_ (thn (ha pins s σ H _ h0 I h) fun v s1 ⟨x,H1,I1,r1,q1⟩=>thn (hb.run pins s1 σ H1 _ I1 q1) fun u s2 ⟨y,H2,I2,r2,q2⟩=>hr a b pins s2 σ H2 x y v u Q I2 r1 r2 q2 (hs _ _))
theorem aaE (g:Good G k X) (ha:PET X a (tE G M W ca)) (hb:PE X b (tE G M W cb)) (hs:PlainIx b):PET X (.Subscript a b pos) (tE G M W (.idx ca cb)):=
 PET.imp (ahc (aaV g) ha hb hs) fun σ H Q ⟨ρ,η,S,s,r,h⟩=>⟨ρ,η,S,s,r,(PR.bind h).mono fun ρ1 H1 x S1 bU s1 h1 v hv=>⟨ρ1,η,S1,s1,r.step bU,(PR.bind h1).mono fun ρ2 H2 y S2 st2 s2 h2 w hw=>by
  obtain ⟨z,e,h3⟩:=PR.ig h2
  exact ⟨ρ2,S2,x,y,z,s2,hv.step st2,hw,e,h3⟩⟩⟩
theorem abP {f:F} (h:PET X a (tF G M W f)):PET X a (tE G M W (.inl f)):=
 PET.imp h fun σ H Q ⟨ρ,η,S,s,r,h⟩=>⟨ρ,η,S,s,r,(PR.bind h).mono fun ρ1 H1 o S1 bU s1 h1 p hp n ho _=>(PR.here h1 s1) _ (ho.inl n)⟩
theorem aaJ {es:List Expr} {cU:Es} (h:PAT X es (tA G M W cU)):PET X (.List es pos) (tF G M W (.lst cU)):=
 PET.imp (pet_lst h) fun σ H Q ⟨ρ,η,S,s,r,h⟩=>⟨ρ,η,S,s,r,(PR.bind h).mono fun ρ1 H1 xs S1 bU s1 h1 vs xO=>by
  split at h1
  ·rename_i hz
   exact ⟨by rw [← xO.length];exact hz,fun p hp=>jC s bU s1 h1 hp fun ρ' gG=>⟨vs,upd_same,au.step gG _ _ xO⟩⟩
  ·exact h1.elim⟩
theorem j7 {es:List Expr} {cU:Es} (ha:PET X a (tE G M W ca)) (hr:PAT X es (tA G M W cU)) (hs:starEach (a::es) X.env=(false,eval a X.env)::starEach es X.env:=by rfl):PAT X (a::es) (tA G M W (.cons ca cU)):=
 PAT.imp (pat_cons ha hr hs) fun σ H Q ⟨ρ,η,S,s,r,h⟩=>⟨ρ,η,S,s,r,(PR.bind h).mono fun ρ1 H1 x S1 bU s1 h1 v hv=>⟨ρ1,η,S1,s1,r.step bU,(PR.bind h1).mono fun ρ2 H2 xs S2 st2 s2 h2 vs xO=>(PR.here h2 s2) _ (au.cons (hv.step st2) xO)⟩⟩
theorem ZJ:PAT X [] (tA G M W .nil):=fun pos pins s σ H Q _ I q=>gJ.run pos pins s σ H Q I q
theorem U5 {y z:Str} {j i:Nat} {c0 c1 cH:Pos} (ha:PE X a (tE G M W ca)) (hyz:(y==z)=false:=by decide)
  (Rq:starEach [.Constant (.str y) j c0,.Constant (.str z) i c1] X.env=[(false,eval (.Constant (.str y) j c0) X.env),(false,eval (.Constant (.str z) i c1) X.env)]:=by rfl)
  (fU:attributeBase a "replace" X.env (eval a X.env)=eval a X.env:=by rfl) (fO:(cH.endLine==pos.line)=true:=by rfl) :
  PET X (.Call (.Attribute a "replace" cH) [.Constant (.str y) j c0,.Constant (.str z) i c1] [] pos) (tE G M W (.Vi ca y z)):=PET.imp (CwR.pet_replC ha hyz Rq fU fO) fun σ H Q ⟨ρ,η,S,s,r,h⟩=>⟨ρ,η,S,s,r,by
 simp only [ev] at h
 refine (PR.bind h).mono fun ρ1 H1 v S1 bU s1 h1 u hu=> ?_
 cases v with
 | str x=>
  simp only [VR] at hu;subst hu
  simp only at h1
  split at h1
  ·rename_i hb
   exact ⟨x,rfl,hb,PR.here h1 s1 _ (by simp only [VR])⟩
  ·exact h1.elim
 | _=>exact h1.elim⟩
theorem RB {y z0 z1 z2 z3:Str} {j j0 j1 j2 j3:Nat} {c0 d0 d1 d2 d3 lp sp cH:Pos} (ha:PE X a (tE G M W ca)) (hb:PE X b (tE G M W cb)) (hs:PlainIx b)
  (Rq:starEach [.Constant (.str y) j c0,.Subscript (.List [.Constant (.str z0) j0 d0,.Constant (.str z1) j1 d1,.Constant (.str z2) j2 d2,.Constant (.str z3) j3 d3] lp) b sp] X.env=[(false,eval (.Constant (.str y) j c0) X.env),(false,eval (.Subscript (.List [.Constant (.str z0) j0 d0,.Constant (.str z1) j1 d1,.Constant (.str z2) j2 d2,.Constant (.str z3) j3 d3] lp) b sp) X.env)]:=by rfl)
  (fU:attributeBase a "replace" X.env (eval a X.env)=eval a X.env:=by rfl) (fO:(cH.endLine==pos.line)=true:=by rfl) :
  PET X (.Call (.Attribute a "replace" cH) [.Constant (.str y) j c0,.Subscript (.List [.Constant (.str z0) j0 d0,.Constant (.str z1) j1 d1,.Constant (.str z2) j2 d2,.Constant (.str z3) j3 d3] lp) b sp] [] pos) (tE G M W (.replL ca y z0 z1 z2 z3 cb)):=by
 intro pins s σ H Q h0 I ⟨ρ,η,S,s0,r,h⟩
 simp only [ev] at h
 refine PySem.Call_method2 fU Rq fO (wpAny_mono (PySem.wpAny_toks (ha.run pins s σ H (fun v H1=>∃ x ρ1 S1,v=.str x∧bf G ρ1 H1 S1∧ER G ρ1 H1 η σ∧PR G W σ ρ1 H1 ((ev M cb η S1).bind fun w S2=>match w with
   | .int k=>match [z0,z1,z2,z3][k.toNat]? with
    | some z=>if 0≤k∧(y==z)=false∧x.length+(x.length+1)* z.length≤16777216 then .ok (.str (Txt.replace x y z)) S2 else .bad
    | none=>.bad
   | _=>.bad) (okV G Q)) I ⟨ρ,η,S,s0,r,(PR.bind h).mono fun ρ1 H1 v S1 bU s1 h1 u hu=>by
  cases v with
  | str x=>simp only [VR] at hu;exact ⟨x,ρ1,S1,hu,s1,r.step bU,h1⟩
  | _=>exact h1.elim⟩)) (fun v s1 q=> ?_) fun _ _ z=>z.2)
 obtain ⟨hk,v',H1,I1,r1,x,ρ1,S1,e1,sm1,er1,q⟩:=q
 subst e1
 obtain ⟨tx,e2⟩:=r1
 subst e2
 refine ⟨"str",_,PySem.F.plainAttrs_str,PySem.F.slot_str_replace,PySem.F.type_str_replace,typeIs_str _ _ _,(fun _ e=>nomatch e),Calls.callWith_builtin rfl (Calls.evalArgs_plain (Calls.spliced_cons ?_))⟩
 refine Calls.Constant_str (Calls.spliced_cons ?_)
 obtain ⟨hp,g1,dr,tk,os⟩:=s1
 have h1:1≤tk:=Nat.le_trans h0 hk
 refine Subscript_ (wpAny_List_spliced ?_)
 show wpAny _ _ (spliced ((false,eval (.Constant (.str z0) j0 d0) X.env)::backTo lp (starEach [.Constant (.str z1) j1 d1,.Constant (.str z2) j2 d2,.Constant (.str z3) j3 d3] X.env))) _ _ _
 refine Calls.spliced_cons (Calls.Constant_str ?_)
 show wpAny _ _ (spliced ((false,eval (.Constant (.str z1) j1 d1) X.env)::backTo lp (starEach [.Constant (.str z2) j2 d2,.Constant (.str z3) j3 d3] X.env))) _ _ _
 refine Calls.spliced_cons (Calls.Constant_str ?_)
 show wpAny _ _ (spliced ((false,eval (.Constant (.str z2) j2 d2) X.env)::backTo lp (starEach [.Constant (.str z3) j3 d3] X.env))) _ _ _
 refine Calls.spliced_cons (Calls.Constant_str ?_)
 show wpAny _ _ (spliced ((false,eval (.Constant (.str z3) j3 d3) X.env)::backTo lp (starEach [] X.env))) _ _ _
 refine Calls.spliced_cons (Calls.Constant_str (Calls.spliced_nil ⟨show 4≤sizeLine by decide,?_⟩))
 have nP:H1 hp.objs.size=none:=I1.hok.fresh (Nat.le_refl _)
 have J:Inv X pins σ (upd H1 hp.objs.size (.frz (X3 z0 z1 z2 z3 tk) (.lst [.str z0,.str z1,.str z2,.str z3]))) ⟨hp.push (X3 z0 z1 z2 z3 tk),g1,dr,tk+1+1+1+1+1,os⟩:=I1.laid (t':=tk+1+1+1+1+1) (fun b u e=>Heap.get?_push_of_some _ e) (Nat.le_refl _) (by
  exact ⟨Heap.get?_push_size _ rfl,(show 4≤sizeLine by decide),[.str z0 (tk+1),.str z1 (tk+1+1),.str z2 (tk+1+1+1),.str z3 (tk+1+1+1+1)],0,.cons ⟨_,rfl⟩ (.cons ⟨_,rfl⟩ (.cons ⟨_,rfl⟩ (.cons ⟨_,rfl⟩ .nil))),Heap.get?_push_size _ rfl⟩)
 have sm:Same H1 (upd H1 hp.objs.size (.frz (X3 z0 z1 z2 z3 tk) (.lst [.str z0,.str z1,.str z2,.str z3]))):=fK nP
 have hq:=q.step (bu sm)
 refine thn (hb.run pins ⟨hp.push (X3 z0 z1 z2 z3 tk),g1,dr,tk+1+1+1+1+1,os⟩ σ (upd H1 hp.objs.size (.frz (X3 z0 z1 z2 z3 tk) (.lst [.str z0,.str z1,.str z2,.str z3]))) (fun w H2=>∃ k z,w=.int k∧H2 hp.objs.size=some (.frz (X3 z0 z1 z2 z3 tk) (.lst [.str z0,.str z1,.str z2,.str z3]))∧[z0,z1,z2,z3][k.toNat]? =some z∧0≤k∧(y==z)=false∧x.length+(x.length+1)* z.length≤16777216∧Q (.str (Txt.replace x y z)) H2) J ⟨ρ1,η,S1,sm1.same sm,er1.step (bu sm),(PR.bind hq).mono fun ρ2 H2 w S2 st2 s2 h2 u hu=>by
  cases w with
  | int k=>
   simp only [VR] at hu
   simp only at h2
   split at h2
   ·rename_i z ez
    split at h2
    ·rename_i hc
     exact ⟨k,z,hu,st2.fz _ _ _ upd_same,ez,hc.1,hc.2.1,hc.2.2,PR.here h2 s2 _ (by simp only [VR])⟩
    ·exact h2.elim
   ·exact h2.elim
  | _=>exact h2.elim⟩) fun w s2 ⟨w',H2,I2,rw',k,z,ew,hP,hz,hk0,hyz,nU,hQ⟩=> ?_
 subst ew
 obtain ⟨tk2,ew2⟩:=rw'
 subst ew2
 have hL:s2.heap.IsList hp.objs.size #[.str z0 (tk+1),.str z1 (tk+1+1),.str z2 (tk+1+1+1),.str z3 (tk+1+1+1+1)]:=by
  obtain ⟨h5,_⟩:=I2.hok _ _ hP
  exact ⟨_,h5,rfl,0,rfl⟩
 have hkl:k.toNat<4:=by
  have:=(List.getElem?_eq_some_iff.mp hz).1
  simpa using this
 obtain ⟨tv,hx,hv⟩:∃ tv:Tok,(#[Value.str z0 (tk+1),.str z1 (tk+1+1),.str z2 (tk+1+1+1),.str z3 (tk+1+1+1+1)]:Array Value)[k.toNat]? =some (.str z tv)∧tk<tv:=by
  match hn:k.toNat,hkl,hz with
  | 0,_,hz=>cases hz;exact ⟨_,rfl,by omega⟩
  | 1,_,hz=>cases hz;exact ⟨_,rfl,by omega⟩
  | 2,_,hz=>cases hz;exact ⟨_,rfl,by omega⟩
  | 3,_,hz=>cases hz;exact ⟨_,rfl,by omega⟩
 refine item_listR hL hk0 (by omega) hx (Calls.spliced_nil ?_) (hs _ _)
 exact PySem.SC.replace (by show tk≠0;omega) (Nat.ne_of_gt (Nat.lt_of_le_of_lt (Nat.zero_le _) hv)) (Nat.ne_of_lt hv) hyz nU fun t' k'=>⟨.str (Txt.replace x y z),H2,I2.tok k',⟨t',rfl⟩,hQ⟩
end
end Oz
namespace Oz
open PySem PySem.Spec PyProof.Rows L2
def Em (K:PySem.W.Frag) (n:Nat):Sp:=fun vs H Q _=>∃ (a:Addr) (ns:List Int),vs=[.ref a]∧SqL K H a (ns.map V.int)∧ns.length≤n∧∀ H',Q (.bl true) H'
section
variable {P:Program} {w:World} {K:PySem.W.Frag} {mg mb:Str→Option Value} {k n:Nat} {fa a:Addr} {fd:FuncData} {x:Str} {s:Shared} {us:List Value} {ns:List Int}
def aih (P:Program) (w:World) (fa a:Addr) (s:Shared):Prop:=codeAny (model P w) callerA (.call (.ref fa) ⟨[.ref a],[]⟩) (fun r t=>r=.ok (.ret (.bool true))∧OldK s.heap t.heap∧t.os=s.os∧AllBare t.gens) s
structure Few (K:PySem.W.Frag) (a:Addr) (H:Hp):Prop where
 at_:∀ b,H b=none∨(b=a∧K.lookup a=none∧∃ o xs,H b=some (.frz o (.lst xs)))
theorem Few.ne {H:Hp} (f:Few K a H) {b:Addr} (h:b≠a):H b=none:=(f.at_ b).elim id fun z=>absurd z.1 h
theorem V4 (kin:K.In s.heap) (hN:s.heap.Ns mainGlobals mg) (hB:s.heap.Ns builtinsNs mb) (hbb:∀ x:Str,x≠"__name__"→mb x=bootBuiltins x) (XS:s.heap.NoLimit) (ac4:s.gens= #[])
  (LQ:s.heap.get? a=some { cls:=.type "list",data:=.seq us.toArray }) (hr:Room k callerA)
  (F:∀ base:Heap,K.In base→base.Ns mainGlobals mg→qu P w K mg base k fa fd [x] (Em K n)) (U9:∀ (s:Shared) (u:Value),BindsTo s fd ⟨[u],[]⟩ [(x,u)])
  {H:Hp} (few:Few K a H) (hS:SqL K H a (ns.map V.int)) (nU:ns.length≤n) (hok:HOk P w H s.heap):aih P w fa a s:=by
 have alz:∀ {b:Addr} {o:Obj} {es:Array DictEntry} {ep:Nat},s.heap.get? b=some o→o.data=.dict es ep→H b=none:=fun {b o es ep} e d=>few.ne fun hb=>by
  rw [hb,LQ] at e
  cases e
  cases d
 have ns2:∀ {b:Addr} {m:Str→Option Value},s.heap.Ns b m→(hidT s.heap H).Ns b m:=fun {b m} ⟨o,es,ep,e,d,r⟩=>⟨o,es,ep,hidT_get e (alz e d),d,r⟩
 have ajQ:K.In (hidT s.heap H):=fun b o e=>hidT_get (kin b o e) ((few.at_ b).elim id fun ⟨hb,hk,_⟩=>by
  rw [hb,hk] at e
  cases e)
 have md:Mod K mg (hidT s.heap H):=by
  obtain ⟨mc,l1,l2⟩:=XS
  exact ⟨ajQ,ns2 hN,⟨mb,ns2 hB,hbb⟩,⟨mc,ns2 l1,l2⟩⟩
 have ev:Env0 P w K mg (hidT s.heap H) callerA [] s H:=
  { frames:=rfl,mod:=md,bs:=fun b o e=>of_hidT e,bsz:=Nat.le_of_eq (hidT_size _ _),funs:=trivial,frf:=fun b hb=>absurd (show b∈([]:List Addr) from hb) (by simp),hok:=hok,bare:=.of_eq ac4 }
 have main:=(F _ ajQ (ns2 hN)).run callerA [] s H ⟨[.ref a],[]⟩ [.ref a] [.ref a] (fun v _=>v=.bl true) (fun _ _ _=>False) hr rfl ev (U9 s (.ref a)) (.cons rfl .nil) ⟨a,ns,rfl,hS,nU,fun _=>rfl⟩
 refine codeAny_mono main fun r t h=> ?_
 match r,h with
 | .error e,⟨_,_,_,_,_,_,_,_,_,_,_,_,z⟩=>exact z.elim
 | .ok (.ret u),⟨v,H',os,bare,un,hok',r',q⟩=>
  cases (show v=.bl true from q)
  cases (show u=Value.bool true from r')
  refine ⟨rfl,OldK.of_keep fun b o e=> ?_,os,bare⟩
  have nf:b∉frs []:=fun z=>absurd (show b∈([]:List Addr) from z) (by simp)
  rcases few.at_ b with z | ⟨_,_,ob,xs,z⟩
  ·exact un.keep b o e z nf (by simp)
  ·obtain ⟨e1,_⟩:=hok b _ z
   obtain ⟨e2,_⟩:=hok' b _ (un.frzs b ob _ z)
   exact e2.trans (e1.symm.trans e)
theorem ZR (kin:K.In s.heap) (hN:s.heap.Ns mainGlobals mg) (hB:s.heap.Ns builtinsNs mb) (hbb:∀ x:Str,x≠"__name__"→mb x=bootBuiltins x) (XS:s.heap.NoLimit) (ac4:s.gens= #[])
  (LQ:s.heap.get? a=some { cls:=.type "list",data:=.seq us.toArray }) (Wv:IntsAre us ns) (hn:n≤sizeLine) (nU:ns.length≤n) (hr:Room k callerA)
  (F:∀ base:Heap,K.In base→base.Ns mainGlobals mg→qu P w K mg base k fa fd [x] (Em K n)) (U9:∀ (s:Shared) (u:Value),BindsTo s fd ⟨[u],[]⟩ [(x,u)]):aih P w fa a s:=by
 have rel:=vals_ints Wv
 have small:ns.length≤sizeLine:=Nat.le_trans nU hn
 by_cases hk:K.lookup a=none
 ·have here:(fun b=>if b=a then some (HO.frz { cls:=.type "list",data:=.seq us.toArray } (.lst (ns.map V.int))) else none:Hp) a=some (.frz { cls:=.type "list",data:=.seq us.toArray } (.lst (ns.map V.int))):=if_pos rfl
  refine V4 kin hN hB hbb XS ac4 LQ hr F U9 (H:=fun b=>if b=a then some (.frz { cls:=.type "list",data:=.seq us.toArray } (.lst (ns.map V.int))) else none) ⟨fun b=> ?_⟩ (.inl (.inr ⟨_,here⟩)) nU fun b u z=> ?_
  ·by_cases hb:b=a
   ·exact .inr ⟨hb,hk,_,_,if_pos hb⟩
   ·exact .inl (if_neg hb)
  ·by_cases hb:b=a
   ·subst hb
    cases here.symm.trans z
    exact ⟨LQ,by rw [List.length_map];exact small,us,_,rel,LQ⟩
   ·cases (if_neg hb).symm.trans z
 ·obtain ⟨o,ho⟩:=Option.ne_none_iff_exists'.mp hk
  have eo:=(kin a o ho).symm.trans LQ
  cases eo
  exact V4 kin hN hB hbb XS ac4 LQ hr F U9 (H:=fun _=>none) ⟨fun _=>.inl rfl⟩ (.inr ⟨_,us.toArray,_,ho,rfl,rfl,rfl,by rw [List.size_toArray,Wv.length];exact small,by simpa using rel⟩) nU fun b u z=>by cases (show (none:Option HO)=some u from z)
end
theorem af7 {l:PySem.W.OpenLaw} {n k:Nat} {q:Program} {aiR:List Str} {XP:(Str→Option Value)→Heap→Prop} {YP:World→Heap→Prop} {d:DefRec} {K:Params→PySem.W.Frag} {x:Str}
  (hn:l.most=some n) (hn2:n≤sizeLine) (hdf:d.params.defaults=[]) (hr:Room k callerA) (hY:∀ (w:World) (h:Heap),YP w h→(K w.params).In h)
  (F:∀ (w:World) (mg:Str→Option Value) (fa:Addr) (h:Heap),(K w.params).In h→h.Ns mainGlobals mg→mg d.name=some (.ref fa)→
   ∃ fd:FuncData,(∀ (s:Shared) (u:Value),BindsTo s fd ⟨[u],[]⟩ [(x,u)])∧∀ base:Heap,(K w.params).In base→base.Ns mainGlobals mg→qu l.prog w (K w.params) mg base k fa fd [x] (Em (K w.params) n)) :
  PySem.W.WalkO q aiR XP YP l.row.toRowW d [] (fun f vs=>PySem.call f vs):=by
 refine Att.attach_call hn hdf fun w s0 s1 mg mb fa o pm cd wW a vs ns GG Y ho hd Ab hmg LQ Wv nU hg=> ?_
 obtain ⟨fd,hb,hF⟩:=F w mg fa _ (hY w _ Y) GG.T.g hmg
 exact ZR (hY w _ Y) GG.T.g GG.T.b GG.T.builtins GG.T.nolimit hg LQ Wv hn2 nU hr hF hb
section
variable {G:bB} {P:Program} {w:World} {K:PySem.W.Frag} {mg:Str→Option Value} {base:Heap}
def tCut (K:PySem.W.Frag):TS:=tAsg (tSl (rSlL K) (tVar 0) tNoPart (tPart (L2.tC (.int 63)))) (gName 0)
theorem ajx {xs:List V} (h:xs.length≤63):cutV xs none (some 63)=xs:=by
 unfold cutV
 rw [HT.sIx_none,show HT.sIx xs.length xs.length (some (63:Int))=min 63 xs.length from HT.sIx_nat xs.length xs.length 63,Nat.min_eq_right h]
 simp
theorem agr {k:Nat} {f:Addr} {x bA:Str} {params:Arguments} {body:List Stmt} {scope:Scope} {dvs:List V} {kws:List (Str × V)} {fd:FuncData} {N:List Str} {p:Str} {M:aF} {rest:Cs} {nn:Nat} (F:FunD K x bA params body scope dvs kws f fd) (Sc:FnScope N [p] scope) (NK:N.length=nn+1)
  (pO:∀ (cI:Value) (A:Around) (outer:List Env) (s:Shared) (H:Hp) (E:XK),Room k (A.deeper (envOfC bA scope s.heap.objs.size f cI))→A.guards=some []→PSs (cxOf (L2.CX P w) P w K mg base N bA scope f cI A outer s H E) body (tSeq (tCut K) (vL G M (fun cls d _ H'=>E cls d H') rest)))
  (U6:∀ ns:List Int,ns.length≤63→∃ T,exec M rest (some (.lst (ns.map .int))::List.replicate nn none) []=.ret (.val (.bl true)) T):qu P w K mg base (k+1) f fd [p] (Em K 63):=by
 obtain ⟨oc,od,dV,kV,wW,pm,an,cI,ct,XX,rfl,lk,Ab,_,_⟩:=F.ex
 refine ⟨fun vs H Q E h=>by obtain ⟨a,ns,rfl,_⟩:=h;rfl,fun A outer s H args us vs Q E hr hgd e0 hb r Cp=> ?_⟩
 obtain ⟨a,ns,rfl,hS,nU,hQ⟩:=Cp
 have tR:K.In s.heap:=e0.mod.kin.keeps fun b o e=>(e0.bs b o e).1
 have DG:s.heap.NoLimit:=e0.mod.nolimit.keeps fun b o e=>(e0.bs b o e).1
 refine codeAny_call_function hr.depth (tR _ _ lk) rfl Sc.co Sc.gen rfl (PySem.W.codeRec_of tR Ab) (hb _ _ _ _ (wpAny_newFunctionEnv_cells Sc.kind (fun ⟨n,v⟩ hy=>(Sc.par n (List.of_mem_zip hy).1).imp id fun z=>⟨z,PySem.W.cellsFrom_some _ _ _ (.inl z)⟩) fun env he s1 x=> ?_))
 subst he
 refine ⟨DG.keeps x.toInCall.keep,codeAny_func ?_⟩
 have wF:Inv (cxOf (L2.CX P w) P w K mg base N bA scope f cI A outer s H E) [] (L2.start N [.ref a]) H s1:=inv_start Sc hr.hd e0 rfl r x
 obtain ⟨T,hT⟩:=U6 ns nU
 have RL:=(pO cI A outer s H E (hr.deeper _) hgd).run [] s1 (L2.start N [.ref a]) H { nx:=fun _ H'=>Q .non H',rt:=Q } wF (by
  have l1:(ns.map V.int).length≤63:=by rw [List.length_map];exact nU
  refine ⟨.ref a,rfl,63,rfl,a,ns.map V.int,rfl,hS,fun q hq=> ?_⟩
  rw [ajx l1]
  have hv:VR G [] (upd H q (.lst (ns.map V.int))) (.lst (ns.map .int)) (.ref q):=by
   simp only [VR]
   refine ⟨q,_,rfl,⟨.inl upd_same,by simp⟩,au.of_get (by simp) fun i y v e1 e2=> ?_⟩
   rw [List.getElem?_map] at e1 e2
   cases e3:ns[i]? with
   | none=>rw [e3] at e1;cases e1
   | some z=>rw [e3] at e1 e2;cases e1;cases e2;simp only [VR]
  have ae3:(L2.start N [.ref a]).length=N.length:=by unfold L2.start;simp;omega
  refine ⟨[],some (.lst (ns.map .int))::List.replicate nn none,[],⟨rfl,List.nodup_nil,fun r o a e=>by simp at e⟩,⟨?_,fun i y e=> ?_⟩,?_⟩
  ·simp only [List.length_cons,List.length_replicate,List.length_set,ae3,NK]
  ·cases i with
   | zero=>
    cases e
    exact ⟨.ref q,by rw [List.getElem?_set_self (by rw [ae3];omega)],hv⟩
   | succ i=>
    rw [List.getElem?_cons_succ,List.getElem?_replicate] at e
    split at e<;>simp at e
  ·rw [hT]
   intro ρ' H' st s' v hv
   simp only [VR] at hv
   subst hv
   exact hQ H')
 refine wpAny_mono RL (fun fl s' hs=> ?_) fun _ _ z=>z
 cases fl with
 | ret u=>obtain ⟨v,σ',H',J,rv,z⟩:=hs;exact ⟨v,H',J.os,J.bare,J.base,J.hok,rv,z⟩
 | next=>obtain ⟨σ',H',J,z⟩:=hs;exact ⟨.non,H',J.os,J.bare,J.base,J.hok,rfl,z⟩
 | brk=>obtain ⟨_,_,_,z⟩:=hs;exact z.elim
 | cont=>obtain ⟨_,_,_,z⟩:=hs;exact z.elim
end
section
variable {G:bB} {P:Program} {w:World} {mg:Str→Option Value} {base:Heap}
theorem Wh {k:Nat} {f:Addr} {bA:Str} {scope:Scope} {N ps:List Str} {cI:Value} {A:Around} {outer:List Env} {s:Shared} {H:Hp} {E:XK} (Sc:FnScope N ps scope) (hr:Room k (A.deeper (envOfC bA scope s.heap.objs.size f cI))) (hg:A.guards=some []) (hge:G.er=none):Good G k (cxOf (L2.CX P w) P w G.K mg base N bA scope f cI A outer s H E):=⟨rfl,Sc.nd,⟨hr.dp,hr.un⟩,hg,fun e h=>by rw [hge] at h;cases h⟩
theorem Xj {k:Nat} {f:Addr} {bA:Str} {scope:Scope} {N:List Str} {cI:Value} {A:Around} {outer:List Env} {s:Shared} {H:Hp} {E:XK} (hr:Room k (A.deeper (envOfC bA scope s.heap.objs.size f cI))) (hge:G.er=none):bT G (cxOf (L2.CX P w) P w G.K mg base N bA scope f cI A outer s H E):=⟨rfl,hr.hd,hge⟩
theorem aio (hge:G.er=none) {k:Nat} {f:Addr} {x bA q:Str} {params:Arguments} {body:List Stmt} {scope:Scope} {dvs:List V} {kws:List (Str × V)} {fd:FuncData} {N ps:List Str} {M M':aF} {d:jU} (F:FunD G.K x bA params body scope dvs kws f fd) (Sc:FnScope N ps scope)
  (hM:∀ xs S,M.cal q xs S=gK M' d xs S) (Rp:d.np=ps.length) (NK:d.nn=N.length)
  (pO:∀ (cI:Value) (A:Around) (outer:List Env) (s:Shared) (H:Hp) (E:XK) [bT G (cxOf (L2.CX P w) P w G.K mg base N bA scope f cI A outer s H E)],Good G k (cxOf (L2.CX P w) P w G.K mg base N bA scope f cI A outer s H E)→
   PassesOwn (model (cxOf (L2.CX P w) P w G.K mg base N bA scope f cI A outer s H E).prog (cxOf (L2.CX P w) P w G.K mg base N bA scope f cI A outer s H E).w) (cxOf (L2.CX P w) P w G.K mg base N bA scope f cI A outer s H E).A (cxOf (L2.CX P w) P w G.K mg base N bA scope f cI A outer s H E).env (cxOf (L2.CX P w) P w G.K mg base N bA scope f cI A outer s H E).xe→
   Takes (cxOf (L2.CX P w) P w G.K mg base N bA scope f cI A outer s H E) (fun cls d _ H'=>E cls d H')→PSs (cxOf (L2.CX P w) P w G.K mg base N bA scope f cI A outer s H E) body (vL G M' (fun cls d _ H'=>E cls d H') d.body)) :
  qu P w G.K mg base (k+1) f fd ps (spI G M d.np q):=
 ak8 F Sc hM Rp NK fun cI A outer s H E hr hg=>haveI:=Xj (G:=G) (P:=P) (w:=w) (mg:=mg) (base:=base) (N:=N) (outer:=outer) (H:=H) (E:=E) hr hge;pO cI A outer s H E (Wh Sc hr hg hge) (L2.passes_of rfl) (L2.takes_of rfl rfl rfl rfl)
theorem adi (hge:G.er=none) {k:Nat} {f:Addr} {x bA:Str} {params:Arguments} {body:List Stmt} {scope:Scope} {dvs:List V} {kws:List (Str × V)} {fd:FuncData} {N:List Str} {p:Str} {M:aF} {rest:Cs} {nn:Nat} (F:FunD G.K x bA params body scope dvs kws f fd) (Sc:FnScope N [p] scope) (NK:N.length=nn+1)
  (pO:∀ (cI:Value) (A:Around) (outer:List Env) (s:Shared) (H:Hp) (E:XK) [bT G (cxOf (L2.CX P w) P w G.K mg base N bA scope f cI A outer s H E)],Good G k (cxOf (L2.CX P w) P w G.K mg base N bA scope f cI A outer s H E)→
   PassesOwn (model (cxOf (L2.CX P w) P w G.K mg base N bA scope f cI A outer s H E).prog (cxOf (L2.CX P w) P w G.K mg base N bA scope f cI A outer s H E).w) (cxOf (L2.CX P w) P w G.K mg base N bA scope f cI A outer s H E).A (cxOf (L2.CX P w) P w G.K mg base N bA scope f cI A outer s H E).env (cxOf (L2.CX P w) P w G.K mg base N bA scope f cI A outer s H E).xe→
   Takes (cxOf (L2.CX P w) P w G.K mg base N bA scope f cI A outer s H E) (fun cls d _ H'=>E cls d H')→PSs (cxOf (L2.CX P w) P w G.K mg base N bA scope f cI A outer s H E) body (tSeq (tCut G.K) (vL G M (fun cls d _ H'=>E cls d H') rest)))
  (U6:∀ ns:List Int,ns.length≤63→∃ T,exec M rest (some (.lst (ns.map .int))::List.replicate nn none) []=.ret (.val (.bl true)) T):qu P w G.K mg base (k+1) f fd [p] (Em G.K 63):=
 agr (G:=G) F Sc NK (fun cI A outer s H E hr hg=>haveI:=Xj (G:=G) (P:=P) (w:=w) (mg:=mg) (base:=base) (N:=N) (outer:=outer) (H:=H) (E:=E) hr hge;pO cI A outer s H E (Wh Sc hr hg hge) (L2.passes_of rfl) (L2.takes_of rfl rfl rfl rfl)) U6
theorem ahp {K:PySem.W.Frag} {k n:Nat} {f:Addr} {fd:FuncData} {ps:List Str} {M:aF} {q:Str} (hn:n=ps.length) (hM:∀ xs S,M.cal q xs S=.bad):qu P w K mg base k f fd ps (spI G M n q):=
 ⟨fun vs H Q E h=>h.1.trans hn,fun A outer s H args us vs Q E hr hgd e0 hb r Cp=>by
  obtain ⟨_,ρ,S,xs,_,_,hp⟩:=Cp
  rw [hM] at hp
  exact hp.elim⟩
end
section
variable {K:PySem.W.Frag} {x bA:Str} {params:Arguments} {body:List Stmt} {scope:Scope} {f:Addr} {fd:FuncData} {ps:List Str} {kws:List (Str × V)}
theorem O3 {dV:Value} (h:DflV K dV []):dV=.none:=h.elim (fun z=>z.2) fun z=>absurd rfl z.1
theorem aef (F:FunD K x bA params body scope [] kws f fd) (h:∀ (kV wW pm:Value) (an:Option Addr) (cI ct:Value) (us:List Value),us.length=ps.length→bindArgs (PySem.W.fnOf x bA params body scope .none kV wW pm an cI ct) ⟨us,[]⟩=pure (ps.zip us)):Binds K fd ps []:=by
 obtain ⟨oc,od,dV,kV,wW,pm,an,cI,ct,XX,rfl,lk,Ab,hD,hK⟩:=F.ex
 cases O3 hD
 exact .all (h kV wW pm an cI ct)
theorem alL (F:FunD K x bA params body scope [] kws f fd) (h:∀ (kV wW pm:Value) (an:Option Addr) (cI ct:Value) (u:Value),bindArgs (PySem.W.fnOf x bA params body scope .none kV wW pm an cI ct) ⟨[u],[]⟩=pure (ps.zip [u])) (s:Shared) (u:Value):BindsTo s fd ⟨[u],[]⟩ (ps.zip [u]):=by
 obtain ⟨oc,od,dV,kV,wW,pm,an,cI,ct,XX,rfl,lk,Ab,hD,hK⟩:=F.ex
 cases O3 hD
 exact .of_eq (h kV wW pm an cI ct u)
theorem zF {st:Stmt} {oc:Value} {od an:Option Addr} {XX:Array (Option Value)} {kV wW pm cI ct:Value} (l:K.lookup f=some ⟨oc,od,.func (PySem.W.fnOf x bA (defArgs st) (defBody st) (defScope st) .none kV wW pm an cI ct),XX⟩)
  (c:PySem.W.codeIn K cI bA=true) (k:PySem.W.keepIn K (.ref f)=true) (hk:KwdV K kV kws):FunD K x bA (defArgs st) (defBody st) (defScope st) [] kws f (PySem.W.fnOf x bA (defArgs st) (defBody st) (defScope st) .none kV wW pm an cI ct):=⟨⟨oc,od,.none,kV,wW,pm,an,cI,ct,XX,rfl,l,c,.inl ⟨rfl,rfl⟩,hk⟩,k⟩
end
end Oz
namespace Oz
open PySem L2
mutual
def Vl.nr:Vl→Bool
 | .tup xs | .lst xs | .dct _ xs | .obj _ _ xs=>dH xs
 | .ref _ | .err _ _ _=>false
 | _=>true
def dH:List Vl→Bool
 | []=>true
 | x::xs=>Vl.nr x&&dH xs
end
def Ob.nr:Ob→Bool
 | .lst xs | .dct _ xs | .ins _ _ xs | .zU _ xs=>dH xs
mutual
theorem R9 (n:Nat):∀ v:Vl,v.nr=true→v.lim n=true
 | .non,_ | .bl _,_ | .int _,_ | .str _,_=>by simp only [Vl.lim]
 | .tup xs,h | .lst xs,h | .dct _ xs,h | .obj _ _ xs,h=>by simp only [Vl.nr] at h;simp only [Vl.lim];exact mU n xs h
 | .ref _,h | .err _ _ _,h=>by simp [Vl.nr] at h
theorem mU (n:Nat):∀ v:List Vl,dH v=true→aV n v=true
 | [],_=>by simp only [aV]
 | x::xs,h=>by
  simp only [dH,Bool.and_eq_true] at h
  simp only [aV,R9 n x h.1,mU n xs h.2,Bool.and_self]
end
mutual
theorem Va (f:Nat→Option Vl):∀ v:Vl,v.nr=true→v.jZ f=some v
 | .non,_ | .bl _,_ | .int _,_ | .str _,_=>by simp only [Vl.jZ]
 | .tup xs,h | .lst xs,h | .dct _ xs,h | .obj _ _ xs,h=>by simp only [Vl.nr] at h;simp only [Vl.jZ,Fe f xs h,Option.map_some]
 | .ref _,h | .err _ _ _,h=>by simp [Vl.nr] at h
theorem Fe (f:Nat→Option Vl):∀ v:List Vl,dH v=true→iY f v=some v
 | [],_=>by simp only [iY]
 | x::xs,h=>by
  simp only [dH,Bool.and_eq_true] at h
  simp only [iY,Va f x h.1,Fe f xs h.2,Option.bind_some,Option.map_some]
end
mutual
theorem zK (f:Nat→Vl):∀ v:Vl,v.nr=true→v.dO f=v
 | .non,_ | .bl _,_ | .int _,_ | .str _,_=>by simp only [Vl.dO]
 | .tup xs,h | .lst xs,h | .dct _ xs,h | .obj _ _ xs,h=>by simp only [Vl.nr] at h;simp only [Vl.dO,Gu f xs h]
 | .ref _,h | .err _ _ _,h=>by simp [Vl.nr] at h
theorem Gu (f:Nat→Vl):∀ v:List Vl,dH v=true→jn f v=v
 | [],_=>by simp only [jn]
 | x::xs,h=>by
  simp only [dH,Bool.and_eq_true] at h
  simp only [jn,zK f x h.1,Gu f xs h.2]
end
theorem uN:∀ {xs:List Vl},(∀ x∈xs,x.nr=true)→dH xs=true
 | [],_=>by simp only [dH]
 | x::xs,h=>by
  simp only [dH,h x (List.mem_cons_self ..),uN fun y hy=>h y (List.mem_cons_of_mem _ hy),Bool.and_self]
theorem T6:∀ {xs:List Vl},dH xs=true→∀ x∈xs,x.nr=true
 | [],_,_,h=>by simp at h
 | x::xs,h,y,hy=>by
  simp only [dH,Bool.and_eq_true] at h
  rcases List.mem_cons.mp hy with rfl | hy
  ·exact h.1
  ·exact T6 h.2 y hy
theorem nQ {xs ys:List Vl} (h:dH xs=true) (k:dH ys=true):dH (xs++ys)=true:=uN fun x hx=>(List.mem_append.mp hx).elim (T6 h x) (T6 k x)
theorem lE (zs:List Str):dH (zs.map Vl.str)=true:=uN fun x hx=>by
 obtain ⟨z,_,rfl⟩:=List.mem_map.mp hx
 simp only [Vl.nr]
theorem dU (zs:List Int):dH (zs.map Vl.int)=true:=uN fun x hx=>by
 obtain ⟨z,_,rfl⟩:=List.mem_map.mp hx
 simp only [Vl.nr]
theorem yu (k:Nat) (S:Hs) {v:Vl} (h:v.nr=true):rO k S v=v:=by
 cases k with
 | zero=>simp only [rO];exact zK _ v h
 | succ k=>simp only [rO];exact zK _ v h
def NR (S:Hs):Prop:=∀ o∈S,o.nr=true
theorem NR.nil:NR []:=fun o h=>by simp at h
theorem NR.app {S T:Hs} (h:NR S) (k:NR T):NR (S++T):=fun o ho=>(List.mem_append.mp ho).elim (h o) (k o)
theorem NR.one {S:Hs} (h:NR S) {o:Ob} (k:o.nr=true):NR (S++[o]):=h.app fun p hp=>by simp at hp;rw [hp];exact k
theorem NR.cl {S:Hs} (h:NR S) (n:Nat):S.all (Ob.lim n)=true:=List.all_eq_true.mpr fun o ho=>by
 have:=h o ho
 cases o<;>exact mU n _ this
theorem NR.take {S:Hs} (h:NR S) (n:Nat):NR (S.take n):=fun o ho=>h o (List.mem_of_mem_take ho)
theorem NR.set {S:Hs} (h:NR S) (r:Nat) {o:Ob} (k:o.nr=true):NR (S.set r o):=fun p hp=>by
 rcases List.mem_or_eq_of_mem_set hp with z | z
 ·exact h p z
 ·rw [z];exact k
theorem NR.at {S:Hs} (h:NR S) {r:Nat} {o:Ob} (e:S[r]? =some o):o.nr=true:=h o (List.mem_of_getElem? e)
theorem adg {n:Nat} {T:Hs} {v:Vl} (h:v.nr=true):lY n T v=.ok (.val v) (T.take n):=by
 cases v with
 | ref r=>simp [Vl.nr] at h
 | _=>simp only [lY,Va _ _ h]
theorem Fw {n:Nat} {T:Hs} {v:Vl} (hT:NR (T.take n)) (h:v.nr=true):FJ n (.val v) T=.ok (.val v) (T.take n):=by
 unfold FJ
 rw [if_pos (hT.cl n)]
 exact adg h
theorem Xh {o:Ob} (f:Nat→Option Vl) (h:o.nr=true):o.jZ f=some o:=by
 cases o<;>simp only [Ob.nr] at h<;>simp only [Ob.jZ,Fe f _ h,Option.map_some]
theorem aaf {n r:Nat} {T:Hs} {o:Ob} (hT:NR (T.take n)) (hr:n≤r) (e:T[r]? =some o) (h:o.nr=true):FJ n (.val (.ref r)) T=.ok (.frs o) (T.take n):=by
 unfold FJ
 rw [if_pos (hT.cl n)]
 simp only [lY]
 rw [if_neg (by omega),e]
 simp only [Xh _ h]
theorem ZG {n:Nat} {T:Hs} {o:Ob} (hn:n≤T.length) (hT:NR (T.take n)) (h:o.nr=true):FJ n (.frs o) T=.ok (.frs o) (T.take n):=by
 unfold FJ
 rw [if_pos (hT.cl n)]
 simp only [lY]
 rw [if_neg (by omega)]
 simp only [List.getElem?_concat_length,Xh _ h,List.take_append_of_le_length hn]
theorem cY {M:aF} {d:jU} {xs:List Vl} {S T:Hs} {v:Vl} (hl:xs.length=d.np) (hb:exec M d.body (xs.map some++List.replicate (d.nn - xs.length) none) S=.ret (.val v) (S++T)) (hS:NR S) (hv:v.nr=true) (h2:d.two=false:=by rfl):gK M d xs S=.ok (.val v) S:=by
 unfold gK
 rw [if_pos hl,hb]
 simp only [h2,Bool.false_eq_true,if_false]
 rw [Fw (by simpa using hS) hv]
 simp
theorem vB {M:aF} {d:jU} {xs:List Vl} {S T:Hs} {o:Ob} {r:Nat} (hl:xs.length=d.np) (hb:exec M d.body (xs.map some++List.replicate (d.nn - xs.length) none) S=.ret (.val (.ref (S.length+r))) (S++T)) (hS:NR S) (ho:T[r]? =some o) (hv:o.nr=true) (h2:d.two=false:=by rfl):gK M d xs S=.ok (.frs o) S:=by
 unfold gK
 rw [if_pos hl,hb]
 simp only [h2,Bool.false_eq_true,if_false]
 rw [aaf (o:=o) (by simpa using hS) (by omega) (by rw [List.getElem?_append_right (by omega)];simpa using ho) hv]
 simp
theorem adE {M:aF} {d:jU} {xs:List Vl} {S T:Hs} {o:Ob} (hl:xs.length=d.np) (hb:exec M d.body (xs.map some++List.replicate (d.nn - xs.length) none) S=.ret (.frs o) (S++T)) (hS:NR S) (hv:o.nr=true) (h2:d.two=false:=by rfl):gK M d xs S=.ok (.frs o) S:=by
 unfold gK
 rw [if_pos hl,hb]
 simp only [h2,Bool.false_eq_true,if_false]
 rw [ZG (by simp) (by simpa using hS) hv]
 simp
theorem YQ {S:Hs} {o:Ob} (h:NR S) (ho:o.nr=true):Cj S (.ok (.val .non) (S++[o]))=.ok o S:=by
 unfold Cj
 simp only [List.getLast?_append,List.getLast?_singleton,Option.some_or,List.length_append,List.length_cons,List.length_nil,List.dropLast_concat]
 rw [if_pos ⟨trivial,(h.one ho).cl _⟩]
theorem mJ (S:Hs) (xs:List Vl):gY .len S (.lst xs)=some (.int xs.length):=rfl
theorem Xb (S:Hs) (xs:List Vl):gY .len S (.tup xs)=some (.int xs.length):=rfl
theorem iU {α:Type} (S:List α) (a b:α):(S++[a]).set S.length b=S++[b]:=by simp
theorem fj (i j:Int):binop .Add (.int i) (.int j)=some (.int (i+j)):=rfl
theorem Rk (i j:Int):binop .Sub (.int i) (.int j)=some (.int (i - j)):=rfl
theorem jy {i j:Int} (h:0<j):binop .Mod (.int i) (.int j)=some (.int (i%j)):=if_pos h
theorem Ug {i j:Int} (h:0<j) (k:j<1073741824):binop .FloorDiv (.int i) (.int j)=some (.int (i / j)):=if_pos ⟨h,k⟩
theorem Fo {i j:Int} (h: -(2 ^ 64)<j) (k:j<2 ^ 64):binop .Mult (.int i) (.int j)=some (.int (i* j)):=if_pos (by unfold Vq;rw [decide_eq_true h,decide_eq_true k];simp)
theorem rF {i j:Int} (h: -(2 ^ 64)<i) (k:i<2 ^ 64):binop .Mult (.int i) (.int j)=some (.int (i* j)):=if_pos (by unfold Vq;rw [decide_eq_true h,decide_eq_true k];simp)
theorem ajc {i j:Int} (h:0≤j) (k:j≤1000000) (l:i.natAbs<2 ^ 64):binop .Pow (.int i) (.int j)=some (.int (i ^ j.toNat)):=if_pos ⟨h,k,l⟩
theorem eX {i j:Str} (h:i.length+j.length≤sizeLine):binop .Add (.str i) (.str j)=some (.str (i++j)):=if_pos h
theorem jE {S:Hs} {xs:List Vl} {x:Vl} {i:Nat} (h:xs[i]? =some x):dM S (.lst xs) (.int i)=some x:=by
 unfold dM
 exact atI_nat h
theorem ix_tup {S:Hs} {xs:List Vl} {x:Vl} {i:Nat} (h:xs[i]? =some x):dM S (.tup xs) (.int i)=some x:=by
 unfold dM
 exact atI_nat h
theorem ix_str {S:Hs} {z:Str} {c:Nat} {i:Nat} (hz:z.length≤1000000) (h:z.cps.toList[i]? =some c):dM S (.str z) (.int i)=some (.str ⟨#[c]⟩):=by
 have e:dM S (.str z) (.int i)=if z.length≤sizeLine then (atI z.cps.toList (i:Int)).map fun c=>.str ⟨#[c]⟩ else none:=rfl
 rw [e,if_pos (Nat.le_trans hz (by decide)),atI_nat h];rfl
theorem jo (S:Hs) (xs:List Vl):qp (S++[.lst xs]) (.ref S.length)=some S.length:=by
 unfold qp
 simp only [List.getElem?_concat_length]
theorem lw {xs:List Vl} {y:Vl} (h:xs.length<1000000):Kv .append xs [y]=some (.non,xs++[y]):=if_pos (Nat.lt_of_lt_of_le h (by decide))
theorem qI {n i:Nat} {x:Vl} (h:(jd 0 n)[i]? =some x):i<n∧x=.int i:=by
 obtain ⟨h1,h2⟩:=Lz h
 exact ⟨h1,by rw [h2,Int.zero_add]⟩
theorem W0 {body:Sg→Hs→Out} {t:Tg} {lk:List Lk} (I:Nat→Sg→Hs→Prop):∀ (xs:List Vl) (k:Nat) (η:Sg) (S:Hs),I k η S→(∀ i η S,I i η S→cP lk S)→
  (∀ i x η S,xs[i]? =some x→I (k+i) η S→∃ η1,aZ t x η=some η1∧∃ η2 S2,(body η1 S=.nx η2 S2∨body η1 S=.cnt η2 S2)∧I (k+i+1) η2 S2)→
  ∃ η' S',forL body t lk xs η S=.nx η' S'∧I (k+xs.length) η' S'
 | [],k,η,S,h0,hl,_=>⟨η,S,by unfold forL;rw [if_pos (hl k η S h0)],h0⟩
 | x::xs,k,η,S,h0,hl,hs=>by
  obtain ⟨η1,e1,η2,S2,e2,h2⟩:=hs 0 x η S rfl h0
  obtain ⟨η',S',e3,h3⟩:=W0 I xs (k+1) η2 S2 h2 hl fun i y η S ey hI=>by
   have:=hs (i+1) y η S (by simpa using ey) (by rw [show k+(i+1)=k+1+i by omega];exact hI)
   rw [show k+(i+1)+1=k+1+i+1 by omega] at this
   exact this
  refine ⟨η',S',?_,by rw [List.length_cons,show k+(xs.length+1)=k+1+xs.length by omega];exact h3⟩
  unfold forL
  rw [if_pos (hl k η S h0),e1]
  rcases e2 with e2 | e2<;>simp only [e2]<;>exact e3
theorem gW {body:Sg→Hs→Out} {t:Tg} {lk:List Lk} {xs:List Vl} {η:Sg} {S:Hs} (I:Nat→Sg→Hs→Prop) (h0:I 0 η S) (hl:∀ i η S,I i η S→cP lk S)
  (hs:∀ i x η S,xs[i]? =some x→I i η S→∃ η1,aZ t x η=some η1∧∃ η2 S2,(body η1 S=.nx η2 S2∨body η1 S=.cnt η2 S2)∧I (i+1) η2 S2):∃ η' S',forL body t lk xs η S=.nx η' S'∧I xs.length η' S':=by
 obtain ⟨η',S',h,k⟩:=W0 I xs 0 η S h0 hl fun i x η S e h=>by rw [Nat.zero_add] at h ⊢;exact hs i x η S e h
 rw [Nat.zero_add] at k
 exact ⟨η',S',h,k⟩
theorem mD {M:aF} {e:E} {η:Sg} {S S1:Hs} {k:Nat} (h:ev M e η S=.ok (.int k) S1) (hk:k≤1000000):pH M (.yC e) η S=.ok ([],jd 0 k) S1:=by
 simp only [pH,h,Res.bind]
 rw [if_pos ⟨by omega,by omega⟩,Int.toNat_natCast]
theorem aU (S:Hs):cP [] S:=fun p h=>by simp at h
theorem uv {step:Vl→Hs→Res (Option Vl)} {lk:List Lk} {S:Hs} (f:Vl→Option Vl) (hl:cP lk S):∀ (xs aQ:List Vl),aQ.length+xs.length≤1000000→dH aQ=true→(∀ x∈xs,∀ y,f x=some y→y.nr=true)→
  (∀ x∈xs,∀ aQ:List Vl,dH aQ=true→step x (S++[.lst aQ])=.ok (f x) (S++[.lst aQ]))→gH step lk xs aQ S=.ok (aQ++xs.filterMap f) S
 | [],aQ,_,_,_,_=>by unfold gH;rw [if_pos hl];simp
 | x::xs,aQ,hz,ha,hy,hs=>by
  have Ze:aQ.length<sizeLine:=by
   have:(1000000:Nat)<sizeLine:=by decide
   rw [List.length_cons] at hz;omega
  unfold gH
  rw [if_pos hl,hs x (List.mem_cons_self ..) aQ ha]
  simp only
  rw [if_pos ⟨trivial,Ze⟩]
  rw [List.length_cons] at hz
  cases e:f x with
  | none=>
   simp only
   rw [uv f hl xs aQ (by omega) ha (fun y h=>hy y (List.mem_cons_of_mem _ h)) fun y h=>hs y (List.mem_cons_of_mem _ h)]
   simp [e]
  | some y=>
   have ny:=hy x (List.mem_cons_self ..) y e
   simp only
   rw [if_pos (R9 _ _ ny),uv f hl xs (aQ++[y]) (by simp;omega) (nQ ha (by simp only [dH,ny,Bool.and_self])) (fun y h=>hy y (List.mem_cons_of_mem _ h)) fun y h=>hs y (List.mem_cons_of_mem _ h)]
   simp [e]
mutual
def Vl.pd:Vl→Bool
 | .non | .bl _=>true
 | .int i=>decide (i.natAbs<10 ^ 6)
 | .str z=>PyData.strOk z
 | .tup xs | .lst xs=>Il xs
 | _=>false
def Il:List Vl→Bool
 | []=>true
 | x::xs=>Vl.pd x&&Il xs
end
mutual
def Vl.wt:Vl→Nat
 | .int _=>20
 | .str z=>z.length
 | .tup xs | .lst xs=>Zi xs
 | _=>0
def Zi:List Vl→Nat
 | []=>0
 | x::xs=>Vl.wt x+1+Zi xs
end
mutual
def Vl.dep:Vl→Nat
 | .tup xs | .lst xs=>pY xs+1
 | _=>0
def pY:List Vl→Nat
 | []=>0
 | x::xs=>max (Vl.dep x) (pY xs)
end
mutual
theorem Xk:∀ v:Vl,v.pd=true→v.nr=true
 | .non,_ | .bl _,_ | .int _,_ | .str _,_=>by simp only [Vl.nr]
 | .tup xs,h | .lst xs,h=>by simp only [Vl.pd] at h;simp only [Vl.nr];exact N6 xs h
 | .dct _ xs,h | .obj _ _ xs,h | .err _ _ xs,h | .ref _,h=>by simp [Vl.pd] at h
theorem N6:∀ v:List Vl,Il v=true→dH v=true
 | [],_=>by simp only [dH]
 | x::xs,h=>by
  simp only [Il,Bool.and_eq_true] at h
  simp only [dH,Xk x h.1,N6 xs h.2,Bool.and_self]
end
theorem Av {i:Int} (h:i.natAbs<10 ^ 6):i.natAbs.log2<20:=by
 by_cases z:i.natAbs=0
 ·rw [z];decide
 ·exact (Nat.log2_lt z).mpr (Nat.lt_trans h (by decide))
structure DOk (v:Vl) (d:PyData):Prop where
 can:d.canLay0=true
 short:d.intsShort 13=true
 Jt:d.showable=true
 w:d.weight≤v.wt
 dp:d.depth≤v.dep
structure amj (v:List Vl) (d:List PyData):Prop where
 can:PyData.canLayAll0 d=true
 short:PyData.intsShortAll 13 d=true
 Jt:PyData.showableAll d=true
 w:PyData.weightAll d≤Zi v
 dp:PyData.depthAll d≤pY v
mutual
theorem CV:∀ v:Vl,v.pd=true→∃ d,v.toD=some d∧DOk v d
 | .non,_=>⟨.none,by simp only [Vl.toD],by constructor<;>simp [PyData.canLay0,PyData.intsShort,PyData.showable,PyData.weight,PyData.depth]⟩
 | .bl b,_=>⟨.bool b,by simp only [Vl.toD],by constructor<;>simp [PyData.canLay0,PyData.intsShort,PyData.showable,PyData.weight,PyData.depth]⟩
 | .int i,h=>by
  simp only [Vl.pd,decide_eq_true_eq] at h
  have l:=Av h
  refine ⟨.int i,by simp only [Vl.toD],?_⟩
  constructor
  ·simp [PyData.canLay0]
  ·have e:=int_text_length_le10 (a:=i) (k:=6) (by decide) h
   have e2:(PyData.shown (.int i)).length=(toString i).length:=by
    simp only [PyData.shown]
    exact ofString_length _
   simp only [PyData.intsShort,decide_eq_true_eq,e2];omega
  ·simp [PyData.showable];omega
  ·simp only [PyData.weight,Vl.wt];split<;>omega
  ·simp [PyData.depth]
 | .str z,h=>by
  simp only [Vl.pd] at h
  refine ⟨.str z,by simp only [Vl.toD],?_⟩
  constructor
  ·simpa [PyData.canLay0] using h
  ·simp [PyData.intsShort]
  ·simp [PyData.showable]
  ·simp only [PyData.weight,Vl.wt];exact Nat.le_refl _
  ·simp [PyData.depth]
 | .tup xs,h=>by
  simp only [Vl.pd] at h
  obtain ⟨ds,e,k⟩:=Ie xs h
  refine ⟨.tuple ds,by simp only [Vl.toD,e,Option.map_some],?_⟩
  constructor
  ·simpa [PyData.canLay0] using k.can
  ·simpa [PyData.intsShort] using k.short
  ·simpa [PyData.showable] using k.Jt
  ·simpa [PyData.weight,Vl.wt] using k.w
  ·simpa [PyData.depth,Vl.dep] using k.dp
 | .lst xs,h=>by
  simp only [Vl.pd] at h
  obtain ⟨ds,e,k⟩:=Ie xs h
  refine ⟨.list ds,by simp only [Vl.toD,e,Option.map_some],?_⟩
  constructor
  ·simpa [PyData.canLay0] using k.can
  ·simpa [PyData.intsShort] using k.short
  ·simpa [PyData.showable] using k.Jt
  ·simpa [PyData.weight,Vl.wt] using k.w
  ·simpa [PyData.depth,Vl.dep] using k.dp
 | .dct _ xs,h | .obj _ _ xs,h | .err _ _ xs,h | .ref _,h=>by simp [Vl.pd] at h
theorem Ie:∀ v:List Vl,Il v=true→∃ d,tL v=some d∧amj v d
 | [],_=>⟨[],by simp only [tL],by constructor<;>simp [PyData.canLayAll0,PyData.intsShortAll,PyData.showableAll,PyData.weightAll,PyData.depthAll]⟩
 | x::xs,h=>by
  simp only [Il,Bool.and_eq_true] at h
  obtain ⟨d,e,k⟩:=CV x h.1
  obtain ⟨ds,es,ks⟩:=Ie xs h.2
  refine ⟨d::ds,by simp only [tL,e,es],?_⟩
  constructor
  ·simp only [PyData.canLayAll0,k.can,ks.can,Bool.and_self]
  ·simp only [PyData.intsShortAll,k.short,ks.short,Bool.and_self]
  ·simp only [PyData.showableAll,k.Jt,ks.Jt,Bool.and_self]
  ·simp only [PyData.weightAll,Zi];have:=k.w;have:=ks.w;omega
  ·simp only [PyData.depthAll,pY];have:=k.dp;have:=ks.dp;omega
end
mutual
theorem Qt:∀ d:PyData,d.canLay0=true→PyData.eqv d d=true
 | .none,_=>by simp [PyData.eqv]
 | .bool _,_ | .int _,_ | .str _,_=>by simp [PyData.eqv]
 | .list xs,h | .tuple xs,h=>by simp only [PyData.eqv];exact Ci xs (by simpa [PyData.canLay0] using h)
 | .dict _,h=>by simp [PyData.canLay0] at h
theorem Ci:∀ d:List PyData,PyData.canLayAll0 d=true→PyData.eqvAll d d=true
 | [],_=>by simp [PyData.eqvAll]
 | x::xs,h=>by
  simp only [PyData.canLayAll0,Bool.and_eq_true] at h
  simp only [PyData.eqvAll,Qt x h.1,Ci xs h.2,Bool.and_self]
end
theorem uY (S:Hs) {v:Vl} (h:v.pd=true):∃ d,dataOf S v=some d∧DOk v d:=by
 obtain ⟨d,e,k⟩:=CV v h
 exact ⟨d,by unfold dataOf;rw [yu _ _ (Xk v h)];exact e,k⟩
theorem DOk.shaped {v:Vl} {d:PyData} (k:DOk v d) (hd:v.dep≤60):SeqAt.shaped d=true:=by
 unfold SeqAt.shaped
 rw [k.can,Bool.true_and]
 exact decide_eq_true (by have:=k.dp;omega)
theorem QL (S:Hs) {v:Vl} (h:v.pd=true) (hd:v.dep≤60):ph S v v=some true:=by
 obtain ⟨d,e,k⟩:=uY S h
 unfold ph
 rw [e]
 simp only
 rw [if_pos ⟨k.shaped hd,k.shaped hd⟩,Qt d k.can]
theorem Qi (S:Hs) {v:Vl} (h:v.pd=true):aX S v=none:=by cases v<;>first | rfl | (simp [Vl.pd] at h)
theorem Nq {S:Hs} {x:Vl} (y:Vl) (h:aX S x=none):vR S x y=none:=by unfold vR;rw [h]
theorem YG (S:Hs) {v:Vl} (h:v.pd=true) (hd:v.dep≤60):yh S v v=some true:=by
 unfold yh
 have h0:=Nq v (Qi S h)
 cases v<;>simp only [Yt,decide_true]<;>(rw [h0];exact QL S h hd)
theorem adn (S:Hs) {v:Vl} (h:v.pd=true) (hd:v.dep≤60) (hw:v.wt≤2 ^ 20):∃ z,gY .repr S v=some (.str z):=by
 obtain ⟨d,e,k⟩:=uY S h
 refine ⟨d.shown,?_⟩
 unfold gY
 simp only [e]
 have hl:d.layable0=true:=by
  unfold PyData.layable0
  rw [k.can]
  simp only [Bool.true_and,Bool.and_eq_true,decide_eq_true_eq]
  have:=k.dp;have:=k.w
  omega
 rw [if_pos ⟨k.Jt,Nat.le_trans (PyProof.Rows.shown_le13 hl k.short) (by decide),k.can,by have:=k.dp;omega⟩]
theorem Ig:∀ {xs:List Vl},(∀ x∈xs,x.pd=true)→Il xs=true
 | [],_=>by simp only [Il]
 | x::xs,h=>by simp only [Il,h x (List.mem_cons_self ..),Ig fun y hy=>h y (List.mem_cons_of_mem _ hy),Bool.and_self]
theorem xW {m:Nat}:∀ {xs:List Vl},(∀ x∈xs,x.dep≤m)→pY xs≤m
 | [],_=>by simp only [pY];omega
 | x::xs,h=>by simp only [pY];have:=h x (List.mem_cons_self ..);have:=xW fun y hy=>h y (List.mem_cons_of_mem _ hy);omega
theorem Ol {m:Nat}:∀ {xs:List Vl},(∀ x∈xs,x.wt≤m)→Zi xs≤xs.length* (m+1)
 | [],_=>by simp [Zi]
 | x::xs,h=>by
  simp only [Zi,List.length_cons]
  have:=h x (List.mem_cons_self ..)
  have:=Ol fun y hy=>h y (List.mem_cons_of_mem _ hy)
  rw [Nat.add_mul]
  omega
section
variable {M:aF} {c:C} {cs a b:Cs} {e:E} {f:F} {t:Tg} {s:Src} {η η1 η2:Sg} {S S1 S2:Hs} {x:Vl} {o:Ob} {r:Out} {lk:List Lk} {xs:List Vl}
theorem aq (h:aP M c η S=.nx η1 S1) (k:exec M cs η1 S1=r):exec M (.cons c cs) η S=r:=by simp only [exec,h,k]
theorem bF {v:Rv} (h:aP M c η S=.ret v S1):exec M (.cons c cs) η S=.ret v S1:=by simp only [exec,h]
theorem aM:exec M .nil η S=.nx η S:=by simp only [exec]
theorem bz (x:Vl) (S1:Hs) (h:ev M e η S=.ok x S1) (hb:aZ t x η=some η1):aP M (.asg t e) η S=.nx η1 S1:=by simp only [aP,h,Res.out,hb]
theorem cQ (S1:Hs) (h:ev M e η S=.ok (.bl true) S1) (k:exec M a η S1=r):aP M (.ite e a b) η S=r:=by simp only [aP,h,Res.out,k]
theorem bD (S1:Hs) (h:ev M e η S=.ok (.bl false) S1) (k:exec M b η S1=r):aP M (.ite e a b) η S=r:=by simp only [aP,h,Res.out,k]
theorem jJ (lk:List Lk) (xs:List Vl) (S1:Hs) (h:pH M s η S=.ok (lk,xs) S1) (k:forL (fun η1 S2=>exec M b η1 S2) t lk xs η S1=r):aP M (.for_ t s b) η S=r:=by simp only [aP,h,Res.out,k]
theorem dI (x:Vl) (S1:Hs) (h:ev M e η S=.ok x S1):aP M (.ret e) η S=.ret (.val x) S1:=by simp only [aP,h,Res.out]
theorem agN (o:Ob) (S1:Hs) (h:d9 M f η S=.ok o S1):aP M (.Yq f) η S=.ret (.frs o) S1:=by simp only [aP,h,Res.out]
theorem NT (x:Vl) (S1:Hs) (h:ev M e η S=.ok x S1):aP M (.ex e) η S=.nx η S1:=by simp only [aP,h,Res.out]
end
section
variable {M:aF} {own:List Nat} {jr test:E} {t:Tg} {s:Src} {η:Sg} {S S1:Hs} {lk:List Lk} {xs:List Vl}
theorem Lw (lk:List Lk) (xs:List Vl) (f:Vl→Option Vl) (h:pH M s η S=.ok (lk,xs) S1) (hl:cP lk S1) (hz:xs.length≤1000000) (hn:∀ x∈xs,∀ y,f x=some y→y.nr=true)
  (hs:∀ x∈xs,∀ aQ:List Vl,dH aQ=true→∃ η1 y,aZ t x (bR η own)=some η1∧ev M jr η1 (S1++[.lst aQ])=.ok y (S1++[.lst aQ])∧f x=some y):d9 M (.comp own jr t s .nil) η S=.ok (.lst (xs.filterMap f)) S1:=by
 simp only [d9,h,Res.bind]
 rw [uv f hl xs [] (by rw [List.length_nil];omega) (by simp only [dH]) hn fun x hx aQ ha=>by
  obtain ⟨η1,y,e1,e2,e3⟩:=hs x hx aQ ha
  simp only [e1,dB,if_true,e2,e3,Res.bind]]
 rw [List.nil_append]
theorem aaS (lk:List Lk) (xs:List Vl) (f:Vl→Option Vl) (h:pH M s η S=.ok (lk,xs) S1) (hl:cP lk S1) (hz:xs.length≤1000000) (hn:∀ x∈xs,∀ y,f x=some y→y.nr=true)
  (hs:∀ x∈xs,∀ aQ:List Vl,dH aQ=true→∃ η1,aZ t x (bR η own)=some η1∧((ev M test η1 (S1++[.lst aQ])=.ok (.bl false) (S1++[.lst aQ])∧f x=none)∨(ev M test η1 (S1++[.lst aQ])=.ok (.bl true) (S1++[.lst aQ])∧∃ y,ev M jr η1 (S1++[.lst aQ])=.ok y (S1++[.lst aQ])∧f x=some y))) :
  d9 M (.comp own jr t s (.cons test .nil)) η S=.ok (.lst (xs.filterMap f)) S1:=by
 simp only [d9,h,Res.bind]
 rw [uv f hl xs [] (by rw [List.length_nil];omega) (by simp only [dH]) hn fun x hx aQ ha=>by
  obtain ⟨η1,e1,⟨e2,e3⟩ | ⟨e2,y,e3,e4⟩⟩:=hs x hx aQ ha
  ·simp only [e1,dB,e2,e3,Res.bind,Bool.false_eq_true,if_false]
  ·simp only [e1,dB,e2,e3,e4,Res.bind,if_true]]
 rw [List.nil_append]
theorem iG {e:E} {v:Vl} (h:ev M e η S=.ok v S1) (hv:lZ S1 v=some (lk,xs)):pH M (.sq e) η S=.ok (lk,xs) S1:=by simp only [pH,h,Res.bind,ig,hv]
theorem zB {e:E} {z:Str} (h:ev M e η S=.ok (.str z) S1):pH M (.chars e) η S=.ok ([],iI z) S1:=by simp only [pH,h,Res.bind]
end
section
variable {M:aF} {a b c e:E} {es:Es} {f:F} {op:Operator} {co p q:CmpOp} {η:Sg} {S S1 S2 S3:Hs} {x y z v:Vl} {d:Bool} {o:Ob} {xs ys:List Vl} {i:Nat} {g m cl:Str} {lo hi:Oe} {l h:Option Int} {r:Rv} {n:Nat}
theorem v_var (hx:η[i]? =some (some x)):ev M (.var i) η S=.ok x S:=by simp only [ev,hx]
theorem aj:ev M (.cst v) η S=.ok v S:=by simp only [ev]
theorem aW (ha:ev M a η S=.ok x S1) (hb:ev M b η S1=.ok y S2) (ho:binop op x y=some z):ev M (.bin op a b) η S=.ok z S2:=by simp only [ev,ha,hb,Res.bind,ig,ho]
theorem aK (ha:ev M a η S=.ok x S1) (hb:ev M b η S1=.ok y S2) (ho:cmpop co S2 x y=some d):ev M (.cmp co a b) η S=.ok (.bl d) S2:=by simp only [ev,ha,hb,Res.bind,ig,ho]
theorem dw (ha:ev M a η S=.ok x S1) (hb:ev M b η S1=.ok y S2) (ho:dM S2 x y=some z):ev M (.idx a b) η S=.ok z S2:=by simp only [ev,ha,hb,Res.bind,ig,ho]
theorem qC:YD M .none η S=.ok none S:=by simp only [YD]
theorem qF {j:Int} (ha:ev M a η S=.ok (.int j) S1):YD M (.some a) η S=.ok (some j) S1:=by simp only [YD,ha,Res.bind]
theorem Br (ha:ev M a η S=.ok x S1) (hl:YD M lo η S1=.ok l S2) (hh:YD M hi η S2=.ok h S3) (ho:HS x l h=some z):ev M (.Cu a lo hi) η S=.ok z S3:=by simp only [ev,ha,hl,hh,Res.bind,ig,ho]
theorem az:evs M .nil η S=.ok [] S:=by simp only [evs]
theorem aa (ha:ev M a η S=.ok x S1) (hs:evs M es η S1=.ok xs S2):evs M (.cons a es) η S=.ok (x::xs) S2:=by simp only [evs,ha,hs,Res.bind]
theorem jg (hs:evs M es η S=.ok xs S1) (hz:xs.length≤1000000):ev M (.tup es) η S=.ok (.tup xs) S1:=by
 have:xs.length≤sizeLine:=Nat.le_trans hz (by decide)
 simp only [ev,hs,Res.bind,if_pos this]
theorem du (hf:d9 M f η S=.ok o S1):ev M (.inl f) η S=.ok o.inl S1:=by simp only [ev,hf,Res.bind]
theorem nY (hf:d9 M f η S=.ok o S1):ev M (.Cz f) η S=.ok (.ref S1.length) (S1++[o]):=by simp only [ev,hf,Res.bind]
theorem bJ (hs:evs M es η S=.ok xs S1) (hc:M.cal m xs S1=.ok r S2):ev M (.call m es) η S=.ok r.v S2:=by simp only [ev,hs,Res.bind,pX,hc]
theorem aah (ha:ev M a η S=.ok x S1) (hm:lH S1 x cl m=true) (hs:evs M es η S1=.ok xs S2) (hc:M.cal (dot cl m) (x::xs) S2=.ok r S3):ev M (.Zf cl m a es) η S=.ok r.v S3:=by simp only [ev,ha,hm,hs,Res.bind,pX,hc,if_true]
theorem dG {u:B1} (ha:ev M a η S=.ok x S1) (ho:gY u S1 x=some z):ev M (.b1 u a) η S=.ok z S1:=by simp only [ev,ha,Res.bind,ig,ho]
theorem jK (ha:ev M a η S=.ok (.bl d) S1):ev M (.pK a) η S=.ok (.bl (!d)) S1:=by simp only [ev,ha,Res.bind]
theorem lW (hc:ev M c η S=.ok (.bl true) S1) (ha:ev M a η S1=.ok x S2):ev M (.ite c a b) η S=.ok x S2:=by simp only [ev,hc,Res.bind,ha]
theorem qZ (hc:ev M c η S=.ok (.bl false) S1) (ha:ev M b η S1=.ok x S2):ev M (.ite c a b) η S=.ok x S2:=by simp only [ev,hc,Res.bind,ha]
theorem oW (ha:ev M a η S=.ok (.bl true) S1) (hb:ev M b η S1=.ok x S2):ev M (.band a b) η S=.ok x S2:=by simp only [ev,ha,hb,Res.bind]
theorem wO (ha:ev M a η S=.ok (.bl false) S1):ev M (.band a b) η S=.ok (.bl false) S1:=by simp only [ev,ha,Res.bind]
theorem uE (ha:ev M a η S=.ok (.bl false) S1) (hb:ev M b η S1=.ok x S2):ev M (.bor a b) η S=.ok x S2:=by simp only [ev,ha,hb,Res.bind]
theorem Hw {ns:List Str} (ha:ev M a η S=.ok x S1) (hi:lD S1 x=some (cl,ns,xs)) (ho:cG ns xs m=some z):ev M (.fld a m) η S=.ok z S1:=by simp only [ev,ha,Res.bind,ig,hi,ho]
theorem xG {s:Str} (ha:ev M a η S=.ok (.str s) S1) (hb:ev M b η S1=.ok y S2) (ho:yd .join S2 s y=some z):ev M (.tm .join a b) η S=.ok z S2:=by simp only [ev,ha,hb,Res.bind,ig,ho]
theorem BR {u:Mm} {k:Nat} (ha:ev M a η S=.ok x S1) (hl:qp S1 x=some k) (hs:evs M es η S1=.ok xs S2) (hk:S2[k]? =some (.lst ys)) {zs:List Vl} (ho:Kv u ys xs=some (v,zs)):ev M (.mut u a es) η S=.ok v (S2.set k (.lst zs)):=by simp only [ev,ha,hl,hs,Res.bind,hk,ho]
theorem afo (ha:ev M a η S=.ok x S1) (ho:aX S1 x=none):ev M (.isD a) η S=.ok (.bl false) S1:=by simp only [ev,ha,Res.bind,ho,Option.isSome_none]
theorem aeR {ng:Bool} (ha:ev M a η S=.ok x S1) (hb:ev M b η S1=.ok y S2) (hm:lH S2 x cl "__eq__"=true) (hy:eqY S2 cl y=true) (hc:M.cal (dot cl "__eq__") [x,y] S2=.ok (.val (.bl d)) S3):ev M (.oeq cl ng a b) η S=.ok (.bl (if ng then !d else d)) S3:=by
 simp only [ev,ha,hb,hm,hy,Res.bind,pX,hc,Bool.and_self,if_true,Rr,Rv.v]
theorem lK (hs:evs M es η S=.ok xs S1) (hz:xs.length≤1000000):d9 M (.lst es) η S=.ok (.lst xs) S1:=by
 have:xs.length≤sizeLine:=Nat.le_trans hz (by decide)
 simp only [d9,hs,Res.bind,if_pos this]
theorem aj0 (ha:ev M a η S=.ok x S1) (hb:ev M b η S1=.ok y S2) (hx:bV S2 x=some xs) (hy:bV S2 y=some ys) (hz:xs.length+ys.length≤1000000):d9 M (.cat a b) η S=.ok (.lst (xs++ys)) S2:=by
 have:xs.length+ys.length≤sizeLine:=Nat.le_trans hz (by decide)
 simp only [d9,ha,hb,Res.bind,hx,hy,if_pos this]
theorem ae7 (ha:ev M a η S=.ok x S1) (hl:YD M lo η S1=.ok l S2) (hh:YD M hi η S2=.ok h S3) (hx:bV S3 x=some xs):d9 M (.slc a lo hi) η S=.ok (.lst (uo xs l h)) S3:=by simp only [d9,ha,hl,hh,Res.bind,hx]
theorem aj8 (ha:ev M a η S=.ok x S1) (hx:cV S1 x=some xs):d9 M (.cpy a) η S=.ok (.lst xs) S1:=by simp only [d9,ha,Res.bind,hx]
end
end Oz
namespace Oz
open PySem L2 PyProof.Rows PySem.Spec
section
variable {G:bB} {ρ:List Addr} {H:Hp} {S:Hs}
theorem OJ:∀ {xs:List Vl} {zs:List (Str × Vl)},UG xs=some zs→xs=zs.map prV
 | [],zs,e=>by simp only [UG,Option.some.injEq] at e;subst e;rfl
 | x::xs,zs,e=>by
  unfold UG at e
  split at e
  ·rename_i h;cases h
  ·rename_i z y xs' h
   injection h with h1 h2
   subst h1 h2
   obtain ⟨l,e1,rfl⟩:=Option.map_eq_some_iff.mp e
   rw [OJ e1];rfl
  ·cases e
def Tri (G:bB) (ρ:List Addr) (H:Hp) (h:Heap) (e:(Str × Vl) × V × Value):Prop:=VR G ρ H (prV e.1) e.2.1∧RelV e.2.1 e.2.2∧FQ h e.2.2 e.1.1
theorem Zw {X:Cx} {pins:List (Addr × Obj)} {σ:L2.St} {s:Shared} (hK:X.K=G.K) (I:Inv X pins σ H s):∀ (zs:List (Str × Vl)) (vs:List V) (us:List Value),au G ρ H (zs.map prV) vs→Vals vs us→
  ∃ L:List ((Str × Vl) × V × Value),L.map (·.1)=zs∧L.map (·.2.1)=vs∧L.map (·.2.2)=us∧∀ e∈L,Tri G ρ H s.heap e
 | [],vs,us,h,r=>by
  simp only [List.map_nil,au] at h
  subst h
  cases r
  exact ⟨[],rfl,rfl,rfl,fun e he=>by cases he⟩
 | z::zs,vs,us,h,r=>by
  simp only [List.map_cons,au] at h
  obtain ⟨v,r',rfl,h1,h2⟩:=h
  cases r with
  | cons rv rr=>
   rename_i u us
   obtain ⟨L,e1,e2,e3,hL⟩:=Zw hK I zs r' us h2 rr
   refine ⟨(z,v,u)::L,by simp [e1],by simp [e2],by simp [e3],fun e he=> ?_⟩
   rcases List.mem_cons.mp he with he | he
   ·subst he
    refine ⟨h1,rv,?_⟩
    have h1':=h1
    unfold prV at h1
    simp only [VR] at h1
    obtain ⟨a,ws,rfl,hT,hw⟩:=h1
    simp only [au,VR] at hw
    obtain ⟨v1,r1,rfl,rfl,v2,r2,rfl,hv2,rfl⟩:=hw
    cases rv
    obtain ⟨its,rvs,⟨o,ho,hc,n,hd⟩,_⟩:=I.tuple (a:=a) (by rw [hK];exact hT.sq)
    obtain ⟨u1,u2,rfl,⟨t,rfl⟩,_⟩:=vals2 rvs
    exact ⟨a,o,n,t,u2,rfl,ho,hc,hd⟩
   ·exact hL e he
theorem QJ {h:Heap}:∀ {L:List ((Str × Vl) × V × Value)},(∀ e∈L,Tri G ρ H h e)→au G ρ H ((L.map (·.1)).map prV) (L.map (·.2.1))∧Vals (L.map (·.2.1)) (L.map (·.2.2))
 | [],_=>⟨au.nil,.nil⟩
 | e::L,hL=>by
  obtain ⟨h1,h2⟩:=QJ (L:=L) fun x hx=>hL x (List.mem_cons_of_mem _ hx)
  obtain ⟨a,b,c⟩:=hL e List.mem_cons_self
  exact ⟨au.cons a h1,.cons b h2⟩
def aj4 (G:bB):List V→Hp→VK→Prop:=fun vs H Q=>∃ ρ S a v xs,vs=[v]∧bf G ρ H S∧VR G ρ H a v∧Bf S a=some xs∧∀ p ws,H p=none→au G ρ H xs ws→Q (.ref p) (upd H p (.lst ws))
theorem adS {X:Cx} (hK:X.K=G.K):CallR X (.builtin "sorted") (aj4 G):=by
 intro pins s σ H vs us Q I r ⟨ρ,S,a,v,xs,ev,s0,hv,e,q⟩
 subst ev
 unfold Bf at e
 split at e
 ·rename_i zs ez
  split at e
  ·rename_i hc
   cases e
   obtain ⟨h64,nd⟩:=hc
   obtain ⟨ys,es,ep⟩:=Option.bind_eq_some_iff.mp ez
   have ey:=OJ ep
   subst ey
   obtain ⟨l,ws,rfl,hsq,hws⟩:=uw s0 hv es
   rw [Vals.ref1 r]
   have qY:∃ its:List Value,Vals ws its∧(s.heap.IsList l its.toArray∨IsTup s.heap l its.toArray)∧ws.length≤sizeLine:=by
    rcases hsq with hq | hq
    ·obtain ⟨its,rv,pl,hz⟩:=I.list (by rw [hK];exact hq)
     exact ⟨its,rv,.inl pl.isList,hz⟩
    ·obtain ⟨its,rv,pl,hz⟩:=I.tuple (by rw [hK];exact hq)
     exact ⟨its,rv,.inr pl,hz⟩
   obtain ⟨its,rv,hl,hz⟩:=qY
   obtain ⟨L,e1,e2,e3,hL⟩:=Zw hK I zs ws its hws rv
   have key:∀ e∈L,cZ s.heap e.2.2=e.1.1:=fun e he=>(hL e he).2.2.tx
   have ln:its.length=zs.length:=by rw [← e3,← e1,List.length_map,List.length_map]
   have ndL:(L.map fun e=>e.1.1).Nodup:=by
    have:(L.map fun e=>e.1.1)=zs.map (·.1):=by rw [← e1,List.map_map];rfl
    rw [this];exact nd
   have inL:∀ u∈its,∃ e∈L,e.2.2=u:=fun u hu=>by rw [← e3] at hu;exact List.mem_map.mp hu
   have tin:∀ u∈its,cZ s.heap u∈zs.map (·.1):=fun u hu=>by
    obtain ⟨e,he,eu⟩:=inL u hu
    rw [← eu,key e he,← e1]
    exact List.mem_map.mpr ⟨e.1,List.mem_map.mpr ⟨e,he,rfl⟩,rfl⟩
   have R6:∀ u∈its,∀ w∈its,cZ s.heap u=cZ s.heap w→u=w:=fun u hu w hw h=>by
    obtain ⟨e,he,eu⟩:=inL u hu
    obtain ⟨f,hf,ew⟩:=inL w hw
    rw [← eu,← ew,key e he,key f hf] at h
    rw [← eu,← ew,Mi (f:=fun e:(Str × Vl) × V × Value=>e.1.1) ndL e he f hf h]
   refine Xz (rkS (zs.map (·.1))) hl (by omega) (fun u hu=> ?_) R6 (fun u hu w hw=>afB nd (tin u hu) (tin w hw)) fun out h1 h2=> ?_
   ·obtain ⟨e,he,eu⟩:=inL u hu
    exact ⟨e.1.1,eu ▸ (hL e he).2.2⟩
   ·-- the order that comes
    have pw:out.toList.Pairwise fun u w=>Df (cZ s.heap u) (cZ s.heap w):=by
     refine List.Pairwise.imp_of_mem (fun {u w} hu hw h=> ?_) h2
     have hu':=h1.mem_iff.mp hu
     have hw':=h1.mem_iff.mp hw
     have q:=afB nd (tin w hw') (tin u hu')
     rw [vK]
     intro c
     rw [decide_eq_true c] at q
     have:=of_decide_eq_true q.symm
     omega
    have ndi:(its.map (cZ s.heap)).Nodup:=by
     have:its.map (cZ s.heap)=zs.map (·.1):=by
      rw [← e3,← e1,List.map_map,List.map_map]
      exact List.map_congr_left fun e he=>key e he
     rw [this];exact nd
    have eo:out.toList=sortBy (cZ s.heap) its:=uG ndi h1 pw
    have ek:(fun e:(Str × Vl) × V × Value=>cZ s.heap e.2.2)=fun e=>cZ s.heap e.2.2:=rfl
    -- the same of the triples
    have es1:∀ (M:List ((Str × Vl) × V × Value)),(∀ e∈M,e∈L)→sortBy (cZ s.heap) (M.map (·.2.2))=(sortBy (fun e=>e.1.1) M).map (·.2.2):=fun M hM=>by
     rw [j5 (fun e:(Str × Vl) × V × Value=>cZ s.heap e.2.2) (·.2.2) (cZ s.heap) (fun _=>rfl)]
     congr 1
     induction M with
     | nil=>rfl
     | cons e M ih=>
      have ih:=ih fun x hx=>hM x (List.mem_cons_of_mem _ hx)
      simp only [sortBy]
      rw [ih]
      have mm:∀ x∈sortBy (fun e:(Str × Vl) × V × Value=>e.1.1) M,x∈L:=fun x hx=>hM x (List.mem_cons_of_mem _ ((ie _ M).mem_iff.mp hx))
      have he:=key e (hM e List.mem_cons_self)
      generalize sortBy (fun e:(Str × Vl) × V × Value=>e.1.1) M=N at mm
      clear ih hM
      induction N with
      | nil=>rfl
      | cons x N ih2=>
       have hx:=key x (mm x List.mem_cons_self)
       have ih3:=ih2 fun y hy=>mm y (List.mem_cons_of_mem _ hy)
       simp only [sH,he,hx,ih3]
    have eo2:out.toList=(sortBy (fun e=>e.1.1) L).map (·.2.2):=by rw [eo,← e3];exact es1 L fun _ h=>h
    have eP:Q7 zs=(sortBy (fun e=>e.1.1) L).map (·.1):=by
     rw [Ii,← e1]
     exact j5 (fun e:(Str × Vl) × V × Value=>e.1.1) (·.1) (·.1) (fun _=>rfl) L
    obtain ⟨b1,b2⟩:=QJ (L:=sortBy (fun e:(Str × Vl) × V × Value=>e.1.1) L) fun e he=>hL e ((ie _ L).mem_iff.mp he)
    rw [← eP] at b1
    rw [← eo2] at b2
    obtain ⟨epc,he'⟩:=PyProof.Rows.sortedAll_at s.heap its out
    have nU:((sortBy (fun e:(Str × Vl) × V × Value=>e.1.1) L).map (·.2.1)).length≤sizeLine:=by
     rw [List.length_map,(ie _ L).length_eq,← List.length_map (f:=fun e:(Str × Vl) × V × Value=>e.2.1),e2];exact hz
    exact ⟨.ref _,upd H (s.heap.objs.size+1) (.lst ((sortBy (fun e:(Str × Vl) × V × Value=>e.1.1) L).map (·.2.1))),I.laid (t':=s.toks) (fun _ _=>PyProof.Rows.sortedAll_old) (Nat.le_succ _) ⟨nU,out.toList,epc,b2,he'⟩,rfl,q _ _ (I.hok.fresh (Nat.le_succ _)) b1⟩
  ·cases e
 ·cases e
end
section
variable {G:bB} {k n:Nat} {X:Cx} {M:aF} {W:WX} {a b c e:Expr} {ca cb cc:E} {cU:Es} {p pos cH:Pos}
theorem V5 (g:Good G k X) (hg:Gl X "sorted") (hm:X.mg "sorted"=none) (ha:PE X a (tE G M W ca)) (hs:starEach [a] X.env=[(false,eval a X.env)]:=by rfl) (he:starEach [a] X.env=(false,eval a X.env)::starEach [] X.env:=by rfl) (jt:(backTo pos (starEach [] X.env)).any (·.1)=false:=by rfl):PE X (.Call (.Name "sorted" p) [a] [] pos) (tF G M W (.YK ca)):=
 (pe_callB (adS g.K) hg hm rfl (vH ha hs) (by decide) (by decide) he jt).imp fun σ H Q ⟨ρ,η,S,s,r,h⟩=>⟨ρ,η,S,s,r,by
  simp only [d9] at h
  refine (PR.bind h).mono fun ρ1 H1 x S1 st s1 h1 v hv=> ?_
  split at h1
  ·rename_i xs ex
   exact ⟨ρ1,S1,x,v,xs,rfl,s1,hv,ex,fun q ws hq hws=>jC s st s1 h1 hq fun ρ' gG=>⟨_,upd_same,au.step gG _ _ hws⟩⟩
  ·exact h1.elim⟩
theorem QH:∀ {ks:List Key} {zs:List Str},Py ks=some zs→ks=zs.map Sum.inr
 | [],zs,e=>by simp only [Py,Option.some.injEq] at e;subst e;rfl
 | .inr z::ks,zs,e=>by
  simp only [Py] at e
  obtain ⟨l,e1,rfl⟩:=Option.map_eq_some_iff.mp e
  rw [QH e1];rfl
 | .inl _::ks,zs,e=>by simp only [Py] at e;cases e
theorem KZ:∀ {ks:List Key} {zs:List Int},KQ ks=some zs→ks=zs.map Sum.inl
 | [],zs,e=>by simp only [KQ,Option.some.injEq] at e;subst e;rfl
 | .inl z::ks,zs,e=>by
  simp only [KQ] at e
  obtain ⟨l,e1,rfl⟩:=Option.map_eq_some_iff.mp e
  rw [KZ e1];rfl
 | .inr _::ks,zs,e=>by simp only [KQ] at e;cases e
theorem Wl [bT G X] (g:Good G k X) (hg:Gl X "sorted") (hm:X.mg "sorted"=none) (ha:PE X a (tE G M W ca)) (hs:starEach [a] X.env=[(false,eval a X.env)]:=by rfl) (he:starEach [a] X.env=(false,eval a X.env)::starEach [] X.env:=by rfl) (jt:(backTo pos (starEach [] X.env)).any (·.1)=false:=by rfl):PE X (.Call (.Name "sorted" p) [a] [] pos) (tF G M W (.Yc ca)):=
 (pe_callB (akc (X5 g.calm) (Ym g.calm)) hg hm rfl (vH ha hs) (by decide) (by decide) he jt).imp fun σ H Q ⟨ρ,η,S,s,r,h⟩=>⟨ρ,η,S,s,r,by
  simp only [d9] at h
  refine (PR.bind h).mono fun ρ1 H1 x S1 st s1 h1 v hv=> ?_
  split at h1
  ·rename_i xs ex
   unfold Gq at ex
   split at ex
   ·rename_i ks vs ed
    split at ex
    ·rename_i zs ez
     split at ex
     ·rename_i h64
      cases ex
      obtain ⟨q,kvs,rfl,g1,g2,_⟩:=nR s1 hv ed
      rw [QH ez] at g2
      exact .inl ⟨q,kvs,zs,rfl,g1,g2,h64,fun ys p' py sy hq=>jC s st s1 h1 hq fun ρ' gG=>⟨_,upd_same,by rw [Y6 py sy];exact au.WN⟩⟩
     ·cases ex
    ·split at ex
     ·rename_i ns en
      split at ex
      ·rename_i h64
       cases ex
       obtain ⟨q,kvs,rfl,g1,g2,_⟩:=nR s1 hv ed
       rw [KZ en] at g2
       exact .inr ⟨q,kvs,ns,rfl,g1,g2,h64,fun ys p' py sy hq=>jC s st s1 h1 hq fun ρ' gG=>⟨_,upd_same,by rw [TY py sy];exact au.Vc⟩⟩
      ·cases ex
     ·cases ex
   ·cases ex
  ·exact h1.elim⟩
theorem Pu {ρ:List Addr} {H:Hp} {k:Key} {y:Vl} {v:V} (hv:VR G ρ H y v):∀ {ks:List Key} {xs:List Vl} {kvs:List (Key × V)},kvs.map (·.1)=ks→au G ρ H xs (kvs.map (·.2))→au G ρ H (mG k y ks xs) ((kvs.map fun kv=>if kv.1=k then (kv.1,v) else kv).map (·.2))
 | [],xs,[],_,h=>by
  simp only [List.map_nil] at h ⊢
  cases xs with
  | nil=>exact au.nil
  | cons x xs=>simp [au] at h
 | [],_,_::_,h,_=>by simp at h
 | _::_,_,[],h,_=>by simp at h
 | n::ns,[],_::_,_,h=>by simp [au] at h
 | n::ns,x::xs,(m,w)::fs,h,q=>by
  simp only [List.map_cons,List.cons.injEq] at h
  obtain ⟨rfl,h⟩:=h
  simp only [List.map_cons,au] at q
  obtain ⟨v',r,e1,k1,k2⟩:=q
  cases e1
  simp only [mG,List.map_cons]
  refine au.cons ?_ (Pu hv h k2)
  by_cases c:m=k
  ·rw [if_pos c,if_pos c];exact hv
  ·rw [if_neg c,if_neg c];exact k1
theorem WW {ρ:List Addr} {H:Hp} {k:Key} {y:Vl} {v:V} (hv:VR G ρ H y v) {ks:List Key} {xs:List Vl} {kvs:List (Key × V)} (h:kvs.map (·.1)=ks) (q:au G ρ H xs (kvs.map (·.2))) :
  (putK kvs k v).map (·.1)=(putD ks xs k y).1∧au G ρ H (putD ks xs k y).2 ((putK kvs k v).map (·.2)):=by
 unfold putK putD
 have ea:(ks.any fun j=>decide (j=k))=kvs.any fun kv=>decide (kv.1=k):=by rw [← h,List.any_map];rfl
 rw [ea]
 by_cases c:(kvs.any fun kv=>decide (kv.1=k))=true
 ·rw [if_pos c,if_pos c]
  refine ⟨?_,Pu hv h q⟩
  rw [← h,List.map_map]
  refine List.map_congr_left fun kv _=> ?_
  simp only [Function.comp]
  split<;>rfl
 ·rw [if_neg c,if_neg c]
  refine ⟨by simp [h],?_⟩
  rw [List.map_append]
  exact q.append (au.cons hv au.nil)
def kvV (p:Key × Vl):Vl:=.tup [match p.1 with | .inl i=>.int i | .inr z=>.str z,p.2]
def aiq (G:bB):TSet:=fun o i v H Q=>∃ ρ S x k y T,bf G ρ H S∧VR G ρ H x o∧VR G ρ H k i∧VR G ρ H y v∧sU S x k y=some T∧∀ H',Step ρ H ρ H'→bf G ρ H' T→Q H'
theorem Nu (g:Good G k X):PSet X (aiq G):=by
 intro pins s σ H o i v ov iv u Q I ro ri rv ⟨ρ,S,x,kk,y,T,s0,hx,hk,hy,e,q⟩
 unfold sU at e
 split at e
 ·rename_i r
  split at e
  ·rename_i ks vs eo
   split at e
   ·rename_i k' ek
    split at e
    ·rename_i hl
     cases e
     obtain ⟨a',rfl,hr,kvs,g1,g2,g3⟩:=s0.ref hx eo
     have ei:i=kV k':=by
      cases kk<;>simp only [Vl.key] at ek<;>cases ek<;>(simp only [VR] at hk;subst hk;rfl)
     subst ei
     obtain ⟨p1,p2⟩:=WW (k:=k') hy g2 g3
     have hl':kvs.length<sizeLine:=by rw [← g2,List.length_map] at hl;exact hl
     have nf:∀ od u,H a'≠some (.frz od u):=fun od u z=>by rw [g1] at z;cases z
     obtain ⟨lN,s3⟩:=bf.put (ho:=.dK (putK kvs k' v)) (o2:=.dct (putD ks vs k' y).1 (putD ks vs k' y).2) s0 hr nf (by
      have gG:Step ρ H ρ (upd H a' (.dK (putK kvs k' v))):=⟨List.prefix_refl _,fun b o hb hn=>by
       rw [upd_ne fun e=>hn (by subst e;exact List.mem_of_getElem? hr)];exact hb,fun b hb=>.inl hb,oU nf⟩
      exact ⟨_,upd_same,p1,au.step gG _ _ p2⟩)
     exact set_dict g.u1 pins s σ H _ _ v ov iv u Q I ro ri rv ⟨a',_,rfl,DPut.k g1 hl',q _ lN s3⟩
    ·cases e
   ·cases e
  ·rename_i xs eo
   split at e
   ·rename_i ii
    split at e
    ·rename_i j ej
     cases e
     obtain ⟨a',rfl,hr,vs,g1,g2⟩:=s0.ref hx eo
     simp only [VR] at hk
     subst hk
     have akW:∀ (ρ:List Addr) (H:Hp) (y:Vl) (v:V),VR G ρ H y v→∀ (xs:List Vl) (vs:List V) (j:Nat),au G ρ H xs vs→au G ρ H (xs.set j y) (vs.set j v):=fun ρ H y v hy xs vs j h=>au.of_get (by simp [h.length]) fun i x w e1 e2=>by
      rw [List.getElem?_set] at e1 e2
      split at e1
      ·rename_i c
       rw [if_pos c] at e2
       split at e1
       ·rename_i c2
        rw [if_pos (by rw [← h.length];exact c2)] at e2
        cases e1;cases e2;exact hy
       ·cases e1
      ·rename_i c
       rw [if_neg c] at e2
       exact h.at_ e1 e2
     have nf:∀ od u,H a'≠some (.frz od u):=fun od u z=>by rw [g1] at z;cases z
     obtain ⟨lN,s3⟩:=bf.put (ho:=.lst (vs.set j v)) (o2:=.lst (xs.set j y)) s0 hr nf (by
      have gG:Step ρ H ρ (upd H a' (.lst (vs.set j v))):=⟨List.prefix_refl _,fun b o hb hn=>by
       rw [upd_ne fun e=>hn (by subst e;exact List.mem_of_getElem? hr)];exact hb,fun b hb=>.inl hb,oU nf⟩
      exact ⟨_,upd_same,au.step gG _ _ (akW _ _ _ _ hy _ _ j g2)⟩)
     exact set_list pins s σ H _ _ v ov iv u Q I ro ri rv ⟨a',vs,ii,j,rfl,rfl,g1,by rw [← g2.length];exact ej,q _ lN s3⟩
    ·cases e
   ·cases e
  ·cases e
 ·cases e
theorem jc (g:Good G k X) {jA:Pos} (he:PE X e (tE G M W cc)) (ha:PE X a (tE G M W ca)) (hb:PE X b (tE G M W cb)) (hs:swapsWithSole [.Subscript a b jA] e pos.line X.env=pure false:=by rfl) (hw:swappedStores [.Subscript a b jA] e X.env=pure none:=by rfl)
  (h1:(assignEach [.Subscript a b jA] X.env).map (·.2)=[assign (.Subscript a b jA) X.env]:=by rfl)
  (ht:∀ v,assign (.Subscript a b jA) X.env v=(do
   let ov ← holding [v] (eval a X.env)
   let iv ← holding [v,ov] (eval b X.env)
   standAt jA
   holding [v,ov,iv] (setItem ov iv v)
   release [v,ov,iv] []):=by intro _;rfl):PS X (.Assign [.Subscript a b jA] e pos) (tC G M W (.uP ca cb cc)):=
 (ps_asg he (pg_sub ha hb (Nu g) ht) hs hw h1).imp fun D σ H ⟨ρ,η,S,s,r,h⟩=>⟨ρ,η,S,s,r,by
  simp only [aP] at h
  refine (PQ.out s r h).mono fun ρ1 H1 y S1 bU s1 h1 v hv=>⟨ρ1,η,S1,s1,r.step bU,(PQ.out s1 (r.step bU) h1).mono fun ρ2 H2 x S2 st2 s2 h2 w hw=>⟨ρ2,η,S2,s2,(r.step bU).step st2,(PQ.out s2 ((r.step bU).step st2) h2).mono fun ρ3 H3 kk S3 lN s3 h3 iv hi=> ?_⟩⟩
  split at h3
  ·rename_i T eT
   exact ⟨ρ3,S3,x,kk,y,T,s3,hw.step lN,hi,(hv.step st2).step lN,eT,fun H' st4 s4=>h3 ρ3 H' σ st4 s4 ((((r.step bU).step st2).step lN).step st4)⟩
  ·exact h3.elim⟩
theorem Yb [bT G X] (g:Good G k X) {a2 b2:Expr} {ca2 cb2:E} {HQ jA ptu:Pos} {kt:Nat} (he:PE X e (tE G M W cc)) (ha:PE X a (tE G M W ca)) (hb:PE X b (tE G M W cb)) (ha2:PE X a2 (tE G M W ca2)) (hb2:PE X b2 (tE G M W cb2))
  (hs:swapsWithSole [.Tuple [.Subscript a b HQ,.Subscript a2 b2 jA] kt ptu] e pos.line X.env=pure false:=by rfl) (hw:swappedStores [.Tuple [.Subscript a b HQ,.Subscript a2 b2 jA] kt ptu] e X.env=pure none:=by rfl)
  (h1:(assignEach [.Tuple [.Subscript a b HQ,.Subscript a2 b2 jA] kt ptu] X.env).map (·.2)=[assign (.Tuple [.Subscript a b HQ,.Subscript a2 b2 jA] kt ptu) X.env]:=by rfl)
  (e1:(assignEach [.Subscript a b HQ,.Subscript a2 b2 jA] X.env).map (·.2)=assign (.Subscript a b HQ) X.env::(assignEach [.Subscript a2 b2 jA] X.env).map (·.2):=by rfl)
  (e2:(assignEach [.Subscript a2 b2 jA] X.env).map (·.2)=assign (.Subscript a2 b2 jA) X.env::(assignEach [] X.env).map (·.2):=by rfl)
  (hn:(assignEach [.Subscript a b HQ,.Subscript a2 b2 jA] X.env).length=2:=by rfl) (Rq:(assignEach [.Subscript a b HQ,.Subscript a2 b2 jA] X.env).findIdx? (·.1)=none:=by rfl)
  (ht:∀ v,assign (.Subscript a b HQ) X.env v=(do
   let ov ← holding [v] (eval a X.env)
   let iv ← holding [v,ov] (eval b X.env)
   standAt HQ
   holding [v,ov,iv] (setItem ov iv v)
   release [v,ov,iv] []):=by intro _;rfl)
  (ht2:∀ v,assign (.Subscript a2 b2 jA) X.env v=(do
   let ov ← holding [v] (eval a2 X.env)
   let iv ← holding [v,ov] (eval b2 X.env)
   standAt jA
   holding [v,ov,iv] (setItem ov iv v)
   release [v,ov,iv] []):=by intro _;rfl) :
  PS X (.Assign [.Tuple [.Subscript a b HQ,.Subscript a2 b2 jA] kt ptu] e pos) (tC G M W (.Vs ca cb ca2 cb2 cc)):=
 (ps_asg he (pg_tup g.calm (pgs_cons (pg_sub ha hb (Nu g) ht) (pgs_cons (pg_sub ha2 hb2 (Nu g) ht2) pgs_nil e2) e1) hn Rq) hs hw h1).imp fun D σ H ⟨ρ,η,S,s,r,h⟩=>⟨ρ,η,S,s,r,by
  simp only [aP] at h
  refine (PQ.out s r h).mono fun ρ1 H1 y S1 bU s1 h1 v hv=> ?_
  split at h1
  ·rename_i y z
   simp only [VR] at hv
   obtain ⟨ad,vs,rfl,hT,xO⟩:=hv
   simp only [au] at xO
   obtain ⟨v1,r1,rfl,hv1,v2,r2,rfl,hv2,rfl⟩:=xO
   refine ⟨ad,[v1,v2],rfl,by rw [g.K];exact hT.sq,rfl,v1,[v2],rfl,ρ1,η,S1,s1,r.step bU,(PQ.out s1 (r.step bU) h1).mono fun ρ2 H2 x S2 st2 s2 h2 w hw=>⟨ρ2,η,S2,s2,(r.step bU).step st2,(PQ.out s2 ((r.step bU).step st2) h2).mono fun ρ3 H3 kk S3 lN s3 h3 iv hi=> ?_⟩⟩
   split at h3
   ·rename_i T eT
    refine ⟨ρ3,S3,x,kk,y,T,s3,hw.step lN,hi,(hv1.step st2).step lN,eT,fun H4 st4 s4=> ?_⟩
    have r4:=(((r.step bU).step st2).step lN).step st4
    have h4:=PQ.step s3 st4 s4 h3
    refine ⟨v2,[],rfl,ρ3,η,T,s4,r4,(PQ.out s4 r4 h4).mono fun ρ5 H5 x2 S5 st5 s5 h5 w2 hw2=>⟨ρ5,η,S5,s5,r4.step st5,(PQ.out s5 (r4.step st5) h5).mono fun ρ6 H6 k2 S6 st6 s6 h6 iv2 Th=> ?_⟩⟩
    split at h6
    ·rename_i T2 eT2
     refine ⟨ρ6,S6,x2,k2,z,T2,s6,hw2.step st6,Th,((((hv2.step st2).step lN).step st4).step st5).step st6,eT2,fun H7 st7 s7=>⟨rfl,?_⟩⟩
     exact h6 ρ6 H7 σ st7 s7 (((r4.step st5).step st6).step st7)
    ·exact h6.elim
   ·exact h3.elim
  ·exact h1.elim⟩
end
end Oz
namespace Oz
open PySem L2 PyProof.Rows PySem.Spec
section
variable {G:bB} {k n:Nat} {X:Cx} {M:aF} {W:WX} {a b c e:Expr} {ca cb cc:E} {cU:Es} {p pos cH:Pos} {x:Str}
theorem aiW {i:Int} {u:Value} {v:V} (hm:X.mg x=some u) (r:RelV v u) (hz:∀ ρ H,VR G ρ H (.int i) v) (hg:Gl X x:=by rfl) (hd:(x==("__debug__":Str))=false:=by decide):PE X (.Name x pos) (L2.tC (.int i)):=by
 have e:=hz [] fun _=>none
 simp only [VR] at e
 subst e
 exact pe_glob hg hm r hd
def ahf (G:bB) (M:aF) (W:WX):List Key→Es→List (TE × TE)
 | z::zs,.cons e es=>(L2.tC (kV z),tE G M W e)::ahf G M W zs es
 | _,_=>[]
theorem Qx:∀ (zs:List Key) (es:Es) (ρ:List Addr) (η:Sg) (S:Hs) (σ:L2.St) (H:Hp) (Q:List (V × V)→Hp→Prop),zs.length=es.len→bf G ρ H S→ER G ρ H η σ→
  PR G W σ ρ H (evs M es η S) (fun ρ' H' xs S'=>∀ vs,au G ρ' H' xs vs→Q ((zs.map kV).zip vs) H')→tPairs (ahf G M W zs es) σ H Q
 | [],.nil,ρ,η,S,σ,H,Q,_,s,_,h=>by
  simp only [evs] at h
  exact h.here s [] au.nil
 | [],.cons _ _,_,_,_,_,_,_,hl,_,_,_=>by simp [Es.len] at hl
 | _::_,.nil,_,_,_,_,_,_,hl,_,_,_=>by simp [Es.len] at hl
 | z::zs,.cons e es,ρ,η,S,σ,H,Q,hl,s,r,h=>by
  simp only [evs] at h
  refine ⟨ρ,η,S,s,r,(PR.bind h).mono fun ρ1 H1 x S1 bU s1 h1 v hv=> ?_⟩
  refine Qx zs es ρ1 η S1 σ H1 _ (by simpa [Es.len] using hl) s1 (r.step bU) ((PR.bind h1).mono fun ρ2 H2 xs S2 st2 s2 h2 vs xO=> ?_)
  exact (h2.here s2) _ (au.cons (hv.step st2) xO)
theorem Vz (g:Good G k X) {zs:List Key} {cU:Es} {keys:List (Option Expr)} {values:List Expr} (h:PPs X pos keys values (ahf G M W zs cU)) (hz:zs.length=cU.len) (R3:keys.all (·.isSome)=true) (hl:keys.length=values.length) (h0:keys≠[]) (h15:keys.length≤15):PE X (.Dict keys values pos) (tF G M W (.zq zs cU)):=(pe_disp h R3 hl h0 h15).imp fun σ H Q ⟨ρ,η,S,s,r,h⟩ p hp=>by
 simp only [d9] at h
 have sn:bf G (ρ++[p]) (upd H p (.dK [])) (S++[.dct [] []]):=s.new hp ⟨[],upd_same,rfl,au.nil⟩
 have stn:Step ρ H (ρ++[p]) (upd H p (.dK [])):=(bu (fK hp)).one hp
 refine Qx zs cU (ρ++[p]) η (S++[.dct [] []]) σ _ _ hz sn (r.step stn) ?_
 cases e:evs M cU η (S++[.dct [] []]) with
 | bad=>rw [e] at h;exact h.elim
 | exc x T=>rw [e] at h;exact h.elim
 | ok xs T=>
  rw [e] at h
  simp only at h
  split at h
  ·rename_i hc
   obtain ⟨rfl,XS,hnd,nU,h15'⟩:=hc
   refine fun ρ2 H2 st2 s2 vs xO=> ?_
   have e2:ρ2=ρ++[p]:=oX st2.pre (by rw [s2.len,sn.len])
   subst e2
   have rp:(ρ++[p])[S.length]? =some p:=by rw [← s.len];simp
   obtain ⟨kvs0,g1,g2,_⟩:=s2.at_ S.length (.dct [] []) p (by simp) rp
   have g3:kvs0=[]:=List.map_eq_nil_iff.mp g2
   subst g3
   have lv:zs.length=vs.length:=by rw [nU,xO.length]
   refine ⟨g1,zs.zip vs,?_,?_,?_⟩
   ·rw [List.zip_map_left]
    exact List.map_congr_left fun q _=>rfl
   ·rw [List.length_zip];omega
   ·have em:mergeK [] (zs.zip vs)=zs.zip vs:=JN _ [] (by
     rw [List.map_nil,List.nil_append,List.map_fst_zip (by omega)]
     exact hnd)
    rw [em]
    have pρ:p∉ρ:=s.free hp
    have nf:∀ od u,H2 p≠some (.frz od u):=fun od u z=>by rw [g1] at z;cases z
    obtain ⟨lN,s3⟩:=bf.put (ho:=.dK (zs.zip vs)) (o2:=.dct zs xs) s2 rp nf (by
     have gG:Step (ρ++[p]) H2 (ρ++[p]) (upd H2 p (.dK (zs.zip vs))):=⟨List.prefix_refl _,fun b o hb hn=>by
      rw [upd_ne fun z=>hn (by subst z;simp)];exact hb,fun b hb=>.inl hb,oU nf⟩
     exact ⟨_,upd_same,List.map_fst_zip (by omega),by rw [List.map_snd_zip (by omega)];exact au.step gG _ _ xO⟩)
    have eS:(S++[Ob.dct [] []]).set S.length (.dct zs xs)=S++[.dct zs xs]:=by simp
    rw [eS] at s3
    have sc:bf G ρ (upd H2 p (.dK (zs.zip vs))) S:=s3.cut s.len s.Ys
    have Tr:Step ρ H ρ (upd H2 p (.dK (zs.zip vs))):=⟨List.prefix_refl _,fun a o hh na=>by
     have nap:a≠p:=fun z=>by subst z;rw [hp] at hh;cases hh
     rw [upd_ne nap]
     exact st2.keep a o (by rw [upd_ne nap];exact hh) (by simp [na,nap]),fun a ha=>.inl ha,fun a od u hh=>by
     have nap:a≠p:=fun z=>by subst z;rw [hp] at hh;cases hh
     rw [upd_ne nap]
     exact st2.fz a od u (by rw [upd_ne nap];exact hh)⟩
    have fin:=h ρ _ Tr sc
    refine fin p hp pρ (OR.less (τ:=[p]) (s3.at_ S.length (.dct zs xs) p (by simp) rp) ?_) s3
    rw [s.len];exact XS
  ·exact h.elim
inductive PF (X:Cx) (G:bB) (M:aF) (W:WX):List Expr→Es→Prop where
 | nil:PF X G M W [] .nil
 | cst {z:Str} {j:Nat} {q:Pos} {es:List Expr} {cs:Es} (r:PF X G M W es cs):PF X G M W (.Constant (.str z) j q::es) (.cons (.cst (.str z)) cs)
 | fmt {e:Expr} {c:E} {q:Pos} {es:List Expr} {cs:Es} (h:PE X e (tE G M W c)) (r:PF X G M W es cs):PF X G M W (.FormattedValue e (-1) none q::es) (.cons c cs)
noncomputable def fsR (M:aF) (cs:Es) (aQ:Str) (η:Sg) (S:Hs):Res Str:=(Rr (evs M cs η S)).bind fun xs S1=>ig S1 (qL xs aQ)
theorem KR {x:Vl} {xs:List Vl} {aQ out:Str} (h:qL (x::xs) aQ=some out):∃ y,zX x=some y∧(aQ++y).length≤sizeLine∧qL xs (aQ++y)=some out:=by
 simp only [qL] at h
 split at h
 ·rename_i y e
  split at h
  ·rename_i c;exact ⟨y,e,c,h⟩
  ·cases h
 ·cases h
theorem ahj {es:List Expr} {cs:Es} (h:PF X G M W es cs):∃ ts,PJ X es ts∧∀ (aQ:Str) (σ:L2.St) (H:Hp) (Q:Str→Hp→Prop),(∃ ρ η S,bf G ρ H S∧ER G ρ H η σ∧PR G W σ ρ H (fsR M cs aQ η S) (fun _ H' z _=>Q z H'))→tJs ts aQ σ H Q:=by
 induction h with
 | nil=>
  refine ⟨[],.nil,fun aQ σ H Q ⟨ρ,η,S,s,r,h⟩=> ?_⟩
  simp only [fsR,evs,Rr,Res.bind,qL,ig] at h
  exact h.here s
 | @cst z j q es cs r ih=>
  obtain ⟨ts,h1,h2⟩:=ih
  refine ⟨L2.tC (.str z)::ts,.cons pe_str h1,fun aQ σ H Q ⟨ρ,η,S,s,r,h⟩=> ?_⟩
  have h:PR G W σ ρ H ((Rr ((evs M cs η S).bind fun xs S2=>.ok (.str z::xs) S2)).bind fun xs S1=>ig S1 (qL xs aQ)) (fun _ H' z _=>Q z H'):=by
   have e0:evs M (.cons (.cst (.str z)) cs) η S=(evs M cs η S).bind fun xs S2=>.ok (.str z::xs) S2:=by simp only [evs,ev,Res.bind]
   unfold fsR at h;rw [e0] at h;exact h
  cases e:evs M cs η S with
  | ok xs S'=>
   rw [e] at h
   have h:PR G W σ ρ H (ig S' (qL (.str z::xs) aQ)) (fun _ H' z _=>Q z H'):=h
   cases eo:qL (.str z::xs) aQ with
   | none=>rw [eo] at h;exact h.elim
   | some out=>
    rw [eo] at h
    obtain ⟨y,e1,c,e2⟩:=KR eo
    simp only [zX] at e1
    split at e1
    ·cases e1
     refine ⟨_,rfl,c,h2 _ σ H Q ⟨ρ,η,S,s,r,?_⟩⟩
     unfold fsR
     rw [e]
     simp only [Rr,Res.bind,e2]
     exact h
    ·cases e1
  | exc x S'=>rw [e] at h;exact h.elim
  | bad=>rw [e] at h;exact h.elim
 | @fmt e c q es cs he r ih=>
  obtain ⟨ts,h1,h2⟩:=ih
  refine ⟨tFmt (tE G M W c)::ts,.cons (pe_fmt he) h1,fun aQ σ H Q ⟨ρ,η,S,s,r,h⟩=>⟨ρ,η,S,s,r,?_⟩⟩
  simp only [fsR,evs] at h
  cases e1:ev M c η S with
  | ok x S1=>
   rw [e1] at h
   simp only [Res.bind] at h
   cases e2:evs M cs η S1 with
   | ok xs S2=>
    rw [e2] at h
    simp only [Rr] at h
    cases eo:qL (x::xs) aQ with
    | none=>rw [eo] at h;exact h.elim
    | some out=>
     rw [eo] at h
     obtain ⟨y,e3,cl,e4⟩:=KR eo
     refine fun ρ1 H1 st s1 v hv=> ?_
     have rest:tJs ts (aQ++y) σ H1 Q:=h2 _ σ H1 Q ⟨ρ1,η,S1,s1,r.step st,by
      unfold fsR
      rw [e2]
      simp only [Rr,Res.bind,e4]
      exact PR.step h st⟩
     unfold zX at e3
     split at e3
     ·split at e3
      ·rename_i hz
       cases e3
       simp only [VR] at hv
       subst hv
       exact .inl ⟨_,rfl,hz,_,rfl,cl,rest⟩
      ·cases e3
     ·split at e3
      ·rename_i hz
       cases e3
       simp only [VR] at hv
       subst hv
       exact .inr ⟨_,rfl,hz,_,rfl,cl,rest⟩
      ·cases e3
     ·cases e3
   | exc x S'=>rw [e2] at h;exact h.elim
   | bad=>rw [e2] at h;exact h.elim
  | exc x S'=>rw [e1] at h;exact h.elim
  | bad=>rw [e1] at h;exact h.elim
theorem abz {v1 v2:Expr} {rest:List Expr} (h:PF X G M W (v1::v2::rest) cU):PE X (.JoinedStr (v1::v2::rest) pos) (tE G M W (.fs cU)):=by
 obtain ⟨ts,h1,h2⟩:=ahj h
 refine (pe_joined h1).imp fun σ H Q ⟨ρ,η,S,s,r,h⟩=>h2 Str.empty σ H _ ⟨ρ,η,S,s,r,?_⟩
 simp only [ev] at h
 unfold fsR
 cases e:Rr (evs M cU η S) with
 | ok xs S1=>
  rw [e] at h
  simp only [Res.bind] at h ⊢
  cases eo:qL xs Str.empty with
  | none=>rw [eo] at h;exact h.elim
  | some out=>
   rw [eo] at h
   exact fun ρ1 H1 st s1=>h ρ1 H1 st s1 _ (by simp only [VR])
 | exc x S1=>
  exfalso
  revert e
  cases evs M cU η S<;>simp [Rr]
 | bad=>rw [e] at h;exact h.elim
theorem agS [bT G X] (g:Good G k X) (hg:Gl X "min") (hm:X.mg "min"=none) (ha:PE X a (tE G M W ca)) (hb:PE X b (tE G M W cb)) (hs:starEach [a,b] X.env=(false,eval a X.env)::starEach [b] X.env:=by rfl) (CJ:starEach [b] X.env=(false,eval b X.env)::starEach [] X.env:=by rfl) (jt:(backTo pos (starEach [b] X.env)).any (·.1)=false:=by rfl) :
  PE X (.Call (.Name "min" p) [a,b] [] pos) (tE G M W (.mn ca cb)):=(pe_callB (call_min2 g.calm) hg hm (by decide+kernel) (pa_cons ha (pa_cons hb pa_nil CJ) hs) (by decide) (by decide) hs jt).imp fun σ H Q ⟨ρ,η,S,s,r,h⟩=>⟨ρ,η,S,s,r,by
 simp only [ev] at h
 refine (PR.bind h).mono fun ρ1 H1 x S1 bU s1 h1 v hv=>⟨ρ1,η,S1,s1,r.step bU,(PR.bind h1).mono fun ρ2 H2 y S2 st2 s2 h2 w hw=> ?_⟩
 cases x with
 | int i=>
  cases y with
  | int j=>
   simp only [VR] at hv hw
   subst hv hw
   exact ⟨i,j,rfl,h2.here s2 _ (by simp only [VR])⟩
  | _=>exact h2.elim
 | _=>exact h2.elim⟩
structure RpM (P:Program) (w:World) (K:PySem.W.Frag) (mg:Str→Option Value) (base:Heap) (G:bB) (M:aF) (k:Nat) (c:Str):Prop where
 ex:∃ (f:Addr) (fd:FuncData) (ps:List Str),qu P w K mg base k f fd ps (spI G M 1 (dot c "__repr__"))∧PySem.W.findIn K (.ref (G.cl c)) "__repr__"=some (some (.ref f))∧PySem.W.isFn K (.ref f)=true∧Binds K fd ps []
def ahN (G:bB) (M:aF) (c:Str):List V→Hp→VK→Prop:=fun xs H Q=>∃ ρ S x v,xs=[v]∧bf G ρ H S∧VR G ρ H x v∧lH S x c "__repr__"=true∧PR G (fun _ _ _ _=>False) [] ρ H (pX M (dot c "__repr__") [x] S) fun _ H' z _=>∃ n,z=.str n∧Q (.str n) H'
theorem ace {c:Str} {f:Addr} {fd:FuncData} {ps:List Str} [bT G X] (g:Good G (k+1) X) (F:qu X.prog X.w X.K X.mg X.base k f fd ps (spI G M 1 (dot c "__repr__"))) (hs:PySem.W.findIn X.K (.ref (G.cl c)) "__repr__"=some (some (.ref f))) (hf:PySem.W.isFn X.K (.ref f)=true) (hb:Binds X.K fd ps []):CallR X (.builtin "repr") (ahN G M c):=by
 intro pins s σ H xs us Q I r h
 obtain ⟨ρ,S,x,v,rfl,s0,hv,hM,hp⟩:=h
 obtain ⟨a',dx,fs,rfl,ea,l⟩:=yX s0 hv hM
 rw [Vals.ref1 r]
 obtain ⟨mA,J,_⟩:=ins_get I.hok ea
 obtain ⟨od,J,_⟩:=J.look
 obtain ⟨m',hF⟩:=I.fr
 refine PySem.W.repr_K g.u1 hF I.ok.mod.kin J hs hf (wpAny_mono (R8 (vs:=[.ref a']) (E':=X.xe) (A:=X.A.in1) (Q:=fun z H'=>∃ n,z=.str n∧Q (.str n) H') F g.rm.in1 g.Mf rfl hb I (.cons rfl .nil) ⟨rfl,ρ,S,[x],s0,au.cons hv au.nil,?_⟩) (fun u s1 ⟨z,H1,I1,rz,n,ez,q⟩=> ?_) fun _ _ z=>z)
 ·exact N7 s0 hp fun ρ' H' x S' v st s' ⟨n,e,q⟩ hv=>by
   subst e
   simp only [VR] at hv
   exact ⟨n,hv,q⟩
 ·subst ez
  obtain ⟨t,rfl⟩:=rz
  exact ⟨.str n,H1,I1,⟨_,rfl⟩,q⟩
theorem rp {c:Str} [bT G X] (g:Good G (k+1) X) (cm:RpM X.prog X.w X.K X.mg X.base G M k c) (hm:X.mg "repr"=none) (ha:PE X a (tE G M W ca)) (hg:Gl X "repr":=by rfl) (Uo:starEach [a] X.env=[(false,eval a X.env)]:=by rfl) (he:starEach [a] X.env=(false,eval a X.env)::starEach [] X.env:=by rfl) (jt:(backTo pos (starEach [] X.env)).any (·.1)=false:=by rfl) :
  PE X (.Call (.Name "repr" p) [a] [] pos) (tE G M W (.Ko c ca)):=by
 obtain ⟨f,fd,ps,F,hs,hf,hb⟩:=cm.ex
 refine (pe_callB (ace g F hs hf hb) hg hm (by decide+kernel) (vH ha Uo) (by decide) (by decide) he jt).imp fun σ H Q ⟨ρ,η,S,s,r,h⟩=>⟨ρ,η,S,s,r,?_⟩
 simp only [ev] at h
 refine (PR.bind h).mono fun ρ1 H1 x S1 bU s1 h1 v hv=> ?_
 split at h1
 ·rename_i hM
  refine ⟨ρ1,S1,x,v,rfl,s1,hv,hM,UW ((PR.bind h1).mono fun ρ2 H2 z S2 st2 s2 h2=> ?_)⟩
  split at h2
  ·exact ⟨_,rfl,h2.here s2 _ (by simp only [VR])⟩
  ·exact h2.elim
 ·exact h1.elim
theorem CG {pos:Pos} {T:String} {e:Expr} {rest:List Expr} {kws:List Keyword} {env:Env} {Mo:Model} {A:Around} {E:Value→Shared→Prop} {s:Shared} {Q:Value→Shared→Prop}
  (h:wpAny Mo A (spliced (backTo pos (starEach (e::rest) env))) (fun vs s₁=>wpAny Mo A (evalAll ((backToKw pos (keywordEach kws env)).map (·.2)))
   (fun kvs s₂=>wpAny Mo A (call (.type T) vs (((backToKw pos (keywordEach kws env)).filterMap (·.1)).zip kvs)) Q E s₂) E s₁) E s)
  (he:backTo pos (starEach (e::rest) env)=(false,eval e env)::backTo pos (starEach rest env):=by rfl)
  (qO:(backTo pos (starEach (e::rest) env)).any (·.1)=false:=by rfl)
  (R3:(backToKw pos (keywordEach kws env)).all (·.1.isSome)=true:=by rfl)
  (hkw:(backToKw pos (keywordEach kws env)).any (·.1.isNone)=false:=by rfl) :
  wpAny Mo A (callWith pos (.type T) [] (backTo pos (starEach (e::rest) env)) (backToKw pos (keywordEach kws env))) Q E s:=by
 have h':wpAny Mo A (evalArgs (.type T) true (backTo pos (starEach (e::rest) env)) (backToKw pos (keywordEach kws env))) (fun a s₁=>wpAny Mo A (call (.type T) ([]++a.pos) a.kw) Q E s₁) E s:=by
  rw [he] at h ⊢
  exact evalArgs_kwB R3 h
 unfold callWith
 refine wpAny_bind (wpAny_holding (wpAny_mono h' (fun a s₁ h₁=>wpAny_bind (wpAny_standAt ?_)) fun _ _ x=>x))
 simp only [qO,hkw,Bool.or_false]
 refine wpAny_bind (wpAny_pure ?_)
 exact wpAny_bind (wpAny_mono h₁ (fun r s₂ hr=>wpAny_bind (wpAny_holding (wpAny_point (wpAny_pure hr)))) fun _ _ x=>x)
def ahl (K:PySem.W.Frag) (k0:Int) (ta:TA):TI:=fun σ H R=>ta σ H fun xs H1=>∃ q vs,xs=[Kq.v q]∧q.cur K H1 vs∧R (aaO K k0 q) H1
theorem abO {e:Expr} {ta:TA} {tM kp cp:Pos} {uD:List Expr} {kk jj:Nat} {k0:Int} (hk0: -(2 ^ 63)≤k0) (hk1:k0<2 ^ 63) (hg:Gl X "enumerate") (hm:X.mg "enumerate"=none) (ha:PA X [e] ta)
  (he:backTo pos (starEach [e] X.env)=(false,eval e X.env)::backTo pos (starEach [] X.env):=by rfl) (jt:(backTo pos (starEach [e] X.env)).any (·.1)=false:=by rfl)
  (R3:(backToKw pos (keywordEach [⟨some "start",.Constant (.int k0) jj cp,kp⟩] X.env)).all (·.1.isSome)=true:=by rfl) (ZF:(backToKw pos (keywordEach [⟨some "start",.Constant (.int k0) jj cp,kp⟩] X.env)).any (·.1.isNone)=false:=by rfl) (hks:(backToKw pos (keywordEach [⟨some "start",.Constant (.int k0) jj cp,kp⟩] X.env)).filterMap (·.1)=[Str.ofString "start"]:=by rfl) :
  PI X (.Tuple uD kk tM) (.Call (.Name "enumerate" p) [e] [⟨some "start",.Constant (.int k0) jj cp,kp⟩] pos) (ahl X.K k0 ta):=by
 refine ⟨fun pins s σ H R I h=> ?_⟩
 have hk:PK X [⟨some "start",.Constant (.int k0) jj cp,kp⟩] (tCons (L2.tC (.int k0)) tNil):=pk_cons pe_int pk_nil
 refine wpAny_Call_Name_kw (ld_blt I hg hm boot_enumerate ?_)
 refine CG (thn (ha.run pos pins s σ H _ I h) fun us s1 ⟨xs,H1,I1,r1,q1⟩=>thn (hk.run pos pins s1 σ H1 (fun zs H2=>zs=[.int k0]∧H2=H1) I1 ⟨rfl,rfl⟩) fun ws s2 ⟨zs,H2,I2,r2,ez,eH⟩=> ?_) he jt R3 ZF
 subst ez eH
 rw [hks]
 obtain ⟨q,vs,ex,c1,hR⟩:=q1
 subst ex
 obtain ⟨u1,rfl,t,rfl⟩:=vals1 r2
 obtain ⟨u,rfl,ru⟩:=vals1 r1
 obtain ⟨o1,K1,B1,k1,l1,a1⟩:=Kq.begins I2 c1 ru
 exact enum_begins_start B1 k1 hk0 hk1 fun h' he' g1 hsz hk'=>JP I2 c1 l1 a1 he' g1 hk' hR
theorem Ri (g:Good G k X) {tM kp cp:Pos} {uD:List Expr} {kk jj:Nat} {k0:Int} (hk0: -(2 ^ 63)≤k0) (hk1:k0<2 ^ 63) (hg:Gl X "enumerate") (hm:X.mg "enumerate"=none) (ha:PA X [a] (tA G M W (.cons ca .nil)))
  (he:backTo pos (starEach [a] X.env)=(false,eval a X.env)::backTo pos (starEach [] X.env):=by rfl) (jt:(backTo pos (starEach [a] X.env)).any (·.1)=false:=by rfl)
  (R3:(backToKw pos (keywordEach [⟨some "start",.Constant (.int k0) jj cp,kp⟩] X.env)).all (·.1.isSome)=true:=by rfl) (ZF:(backToKw pos (keywordEach [⟨some "start",.Constant (.int k0) jj cp,kp⟩] X.env)).any (·.1.isNone)=false:=by rfl) (hks:(backToKw pos (keywordEach [⟨some "start",.Constant (.int k0) jj cp,kp⟩] X.env)).filterMap (·.1)=[Str.ofString "start"]:=by rfl) :
  PI X (.Tuple uD kk tM) (.Call (.Name "enumerate" p) [a] [⟨some "start",.Constant (.int k0) jj cp,kp⟩] pos) (tS G M W (.YX ca k0)):=(abO hk0 hk1 hg hm ha he jt R3 ZF hks).imp fun σ H R ⟨ρ,η,S,s,r,h⟩=>⟨ρ,η,S,s,r,by
 simp only [pH] at h
 rw [agG]
 refine PR.re1 h fun ρ1 H1 x S1 st s1 h1 vs hv=> ?_
 simp only [au] at hv
 obtain ⟨v,r,rfl,hv1,rfl⟩:=hv
 obtain ⟨⟨l1,xs⟩,e1,h2⟩:=(PR.bind h1).ig
 obtain ⟨q,rfl,⟨vs,c1⟩,w1⟩:=walk_of s1 hv1 e1
 rw [g.K];exact ⟨q,vs,rfl,c1,(h2.here s1).here s1 _ (JW.YX w1)⟩⟩
end
end Oz
namespace Oz
open PySem PySem.Spec L2 PyProof.Rows
section
variable {G:bB} {k:Nat} {X:Cx} {M:aF} {W:WX} {pos:Pos}
def alA (G:bB) (M:aF) (W:WX):Es→List (TE × TE)
 | .cons a (.cons b es)=>(tE G M W a,tE G M W b)::alA G M W es
 | _=>[]
def ail:Es→Bool
 | .nil=>true
 | .cons _ (.cons _ es)=>ail es
 | .cons _ .nil=>false
def akN:List V→List (V × V)
 | a::b::r=>(a,b)::akN r
 | _=>[]
end
end Oz
namespace Oz
open PySem L2 PyProof.Rows PySem.Spec
section
variable {G:bB} {M:aF} {W:WX} {X:Cx} {k:Nat}
theorem Gy {n:Nat} {kk:Key} {y:Vl} (hy:y.lim n=true):∀ {ks:List Key} {vs:List Vl},aV n vs=true→aV n (mG kk y ks vs)=true
 | [],_,_=>by simp [mG,aV]
 | _::_,[],_=>by simp [mG,aV]
 | j::ks,v::vs,h=>by
  simp only [aV,Bool.and_eq_true] at h
  simp only [mG,aV,Bool.and_eq_true]
  refine ⟨?_,Gy hy h.2⟩
  split
  ·exact hy
  ·exact h.1
theorem RK {n:Nat} {kk:Key} {y:Vl} {ks:List Key} {vs:List Vl} (hy:y.lim n=true) (h:aV n vs=true):aV n (putD ks vs kk y).2=true:=by
 unfold putD
 split
 ·exact Gy hy h
 ·exact oA h hy
theorem aiL {ρ:List Addr} {H:Hp} {x:Vl} {v:V} {kk:Key} (h:VR G ρ H x v) (e:x.key=some kk):v=kV kk:=by
 cases x<;>simp only [Vl.key] at e<;>cases e<;>(simp only [VR] at h;subst h;rfl)
theorem aiy {own:List Nat} {ke ve:E} {t:Tg} {qY:Src} {ci:Es} (ht:∀ i∈t.slots,i∈own) (σ:L2.St) (H:Hp) (Q:VK) (h:tF G M W (.Ji own ke ve t qY ci) σ H Q):tDc (tS G M W qY) (tG G t) (yc G M WF ci) (tE G M WF ke) (tE G M WF ve) own σ H Q:=by
 obtain ⟨ρ,η,S,s,r,h⟩:=h
 refine ⟨ρ,η,S,s,r,?_⟩
 simp only [d9] at h
 refine (PR.bind h).mono fun ρ1 H1 p S1 st s1 h1 J jw D hD=> ?_
 obtain ⟨lk,xs⟩:=p
 simp only at h1 jw
 have hD0:H D=none:=none_of s s1 st hD
 have hDn:D∉ρ1:=s1.free hD
 have BK:=s1.len
 have sm:Same H1 (upd H1 D (.dK [])):=fK hD
 have stD:Step ρ1 H1 (ρ1++[D]) (upd H1 D (.dK [])):=(bu sm).one hD
 have SM:bf G (ρ1++[D]) (upd H1 D (.dK [])) (S1++[.dct [] []]):=s1.new hD ⟨[],upd_same,rfl,au.nil⟩
 have rD:(ρ1++[D])[S1.length]? =some D:=by rw [← BK];simp
 generalize Hr:(fun (x:Vl) (S2:Hs)=>match aZ t x (bR η own) with
   | none=>(Res.bad:Res (Option (Vl × Vl)))
   | some η1=>(dB M ci η1 S2).bind fun b S3=>if b=true then (ev M ke η1 S3).bind fun k S4=>(ev M ve η1 S4).bind fun y S5=>.ok (some (k,y)) S5 else .ok none S3)=step at h1
 refine ⟨fun i m H'=>m=xs.length - i∧i≤xs.length∧∃ ks vs,Step ρ1 H1 (ρ1++[D]) H'∧bf G (ρ1++[D]) H' (S1++[.dct ks vs])∧PR G W σ ρ1 H1 ((uh step lk (xs.drop i) ks vs S1).bind fun q S2=>.ok (.dct q.1 q.2) S2) (Cd G H Q)∧aV S1.length vs=true,⟨xs.length,by simp,Nat.zero_le _,[],[],stD,SM,by simpa using h1,by simp [aV]⟩,?_⟩
 rintro i m H' ⟨rfl,hi,ks,vs,gG,s',h',la⟩
 by_cases hl:i<xs.length
 ·refine .inr ?_
  rw [List.drop_eq_getElem_cons hl] at h'
  simp only [uh] at h'
  split at h'
  ·rename_i l'
   have l2:cP lk (S1++[.dct ks vs]):=fun p hp=>by
    have e:=l' p hp
    rw [List.getElem?_append_left (aJ e)];exact e
   obtain ⟨hgo,hy⟩:=jw.go _ H' _ i xs[i] (Step.x gG) s' l2 (by simp [hl])
   refine ⟨hgo,fun H3=>∃ ks vs,Step ρ1 H1 (ρ1++[D]) H3∧bf G (ρ1++[D]) H3 (S1++[.dct ks vs])∧PR G W σ ρ1 H1 ((uh step lk (xs.drop (i+1)) ks vs S1).bind fun q S2=>.ok (.dct q.1 q.2) S2) (Cd G H Q)∧aV S1.length vs=true,fun H3 a=>⟨xs.length - (i+1),by omega,rfl,by omega,a⟩,fun v H3 y=> ?_⟩
   obtain ⟨sm3,hv⟩:=hy v H3 y
   have lN:Step (ρ1++[D]) H' (ρ1++[D]) H3:=bu sm3
   have s3:=s'.same sm3
   have Z3:step xs[i] (S1++[.dct ks vs])=match aZ t xs[i] (bR η own) with
     | none=>(Res.bad:Res (Option (Vl × Vl)))
     | some η1=>(dB M ci η1 (S1++[.dct ks vs])).bind fun b S3=>if b=true then (ev M ke η1 S3).bind fun k S4=>(ev M ve η1 S4).bind fun y S5=>.ok (some (k,y)) S5 else .ok none S3:=by rw [← Hr]
   cases eb:aZ t xs[i] (bR η own) with
   | none=>rw [Z3,eb] at h';exact h'.elim
   | some η2=>
    rw [Z3,eb] at h'
    simp only at h'
    have er3:ER G (ρ1++[D]) H3 (bR η own) (wipe σ own):=(((r.step st).step gG).step lN).wipe own
    refine ⟨ρ1++[D],S1++[.dct ks vs],bR η own,xs[i],η2,s3,er3,hv,eb,fun σ4 of4 r4=>⟨xX of4 ht,ρ1++[D],η2,S1++[.dct ks vs],s3,r4,?_⟩⟩
    cases ea:dB M ci η2 (S1++[.dct ks vs]) with
    | bad=>rw [ea] at h';exact h'.elim
    | exc x S3=>rw [ea] at h';exact h'.elim
    | ok b S3=>
     rw [ea] at h'
     simp only [Res.bind] at h'
     refine fun ρ5 H5 st5 s5=> ?_
     cases b with
     | false=>
      simp only [Bool.false_eq_true,if_false] at h' ⊢
      by_cases c5:S3=S1++[.dct ks vs]∧ks.length<sizeLine
      ·rw [if_pos c5] at h'
       obtain ⟨rfl,_⟩:=c5
       have e5:ρ5=ρ1++[D]:=oX st5.pre (by rw [s5.len,← s3.len])
       subst e5
       exact ⟨ks,vs,(gG.trans lN).trans st5,s5,h',la⟩
      ·rw [if_neg c5] at h';exact h'.elim
     | true=>
      simp only [if_true] at h' ⊢
      refine ⟨ρ5,η2,S3,s5,r4.step st5,?_⟩
      cases ev6:ev M ke η2 S3 with
      | bad=>rw [ev6] at h';exact h'.elim
      | exc x S4=>rw [ev6] at h';exact h'.elim
      | ok kx S4=>
       rw [ev6] at h'
       simp only [Res.bind] at h'
       refine fun ρ6 H6 st6 s6 kv hkv=>⟨ρ6,η2,S4,s6,(r4.step st5).step st6,?_⟩
       cases ev7:ev M ve η2 S4 with
       | bad=>rw [ev7] at h';exact h'.elim
       | exc x S5=>rw [ev7] at h';exact h'.elim
       | ok y S5=>
        rw [ev7] at h'
        simp only at h'
        refine fun ρ7 H7 st7 s7 w hw=> ?_
        by_cases c7:S5=S1++[.dct ks vs]∧ks.length<sizeLine
        ·rw [if_pos c7] at h'
         obtain ⟨rfl,hz⟩:=c7
         have e7:ρ7=ρ1++[D]:=oX ((st5.trans st6).trans st7).pre (by rw [s7.len,← s3.len])
         subst e7
         cases ek:kx.key with
         | none=>rw [ek] at h';exact h'.elim
         | some kk=>
          rw [ek] at h'
          simp only at h'
          by_cases ly:y.lim S1.length=true
          ·rw [if_pos ly] at h'
           obtain ⟨kvs,g1,g2,g3⟩:=s7.at_ S1.length (.dct ks vs) D (by simp) rD
           obtain ⟨p1,p2⟩:=WW (k:=kk) hw g2 g3
           have nf:∀ od u,H7 D≠some (.frz od u):=fun od u z=>by rw [g1] at z;cases z
           obtain ⟨st8,s8⟩:=bf.put (ho:=.dK (putK kvs kk w)) (o2:=.dct (putD ks vs kk y).1 (putD ks vs kk y).2) s7 rD nf (by
            have stE:Step (ρ1++[D]) H7 (ρ1++[D]) (upd H7 D (.dK (putK kvs kk w))):=⟨List.prefix_refl _,fun b o hb hn=>by
             rw [upd_ne fun e=>hn (by subst e;simp)];exact hb,fun b hb=>.inl hb,oU nf⟩
            exact ⟨_,upd_same,p1,au.step stE _ _ p2⟩)
           refine ⟨kvs,kk,aiL hkv ek,g1,by rw [← g2,List.length_map] at hz;exact hz,(putD ks vs kk y).1,(putD ks vs kk y).2,((((gG.trans lN).trans st5).trans st6).trans st7).trans st8,by simpa using s8,h',RK ly la⟩
          ·rw [if_neg ly] at h';exact h'.elim
        ·rw [if_neg c7] at h';exact h'.elim
  ·exact h'.elim
 ·have e:i=xs.length:=by omega
  subst e
  rw [List.drop_length] at h'
  simp only [uh] at h'
  split at h'
  ·rename_i l'
   have l2:cP lk (S1++[.dct ks vs]):=fun p hp=>by
    have e:=l' p hp
    rw [List.getElem?_append_left (aJ e)];exact e
   refine .inl ⟨jw.stop _ H' _ (Step.x gG) s' l2,?_⟩
   have sc:bf G ρ1 H' S1:=s'.cut BK s1.Ys
   have Tr:Step ρ1 H1 ρ1 H':=⟨List.prefix_refl _,gG.keep,fun a ha=>.inl ha,gG.fz⟩
   have fin:Cd G H Q ρ1 H' (.dct ks vs) S1:=h' ρ1 H' Tr sc
   exact fin D hD0 hDn (OR.less (s'.at_ S1.length (.dct ks vs) D (by simp) rD) (by rw [BK];exact la)) s'
  ·exact h'.elim
theorem Qp {kx vx tg iter:Expr} {lM:List Expr} {scope:Scope} {own:List (Str × Nat)} {pos:Pos} {ke ve:E} {t:Tg} {qY:Src} {ci:Es} [bT G X] (g:Good G k X) (yM:∀ i∈t.slots,i∈own.map (·.2)) (hi:PI X tg iter (tS G M W qY)) (ok:BlkOk X.N X.env.scope scope own)
  (hg:∀ (s:Shared) (H:Hp) (C:Addr) (cl:List (Str × Addr)) (fp:List Addr),PG (X.blk s H scope (compEnvC scope cl C X.env) fp) tg (tG G t)) (ht:∀ (s:Shared) (H:Hp) (C:Addr) (cl:List (Str × Addr)) (fp:List Addr),PTs (X.blk s H scope (compEnvC scope cl C X.env) fp) lM (yc G M WF ci))
  (hk:∀ (s:Shared) (H:Hp) (C:Addr) (cl:List (Str × Addr)) (fp:List Addr),PE (X.blk s H scope (compEnvC scope cl C X.env) fp) kx (tE G M WF ke))
  (he:∀ (s:Shared) (H:Hp) (C:Addr) (cl:List (Str × Addr)) (fp:List Addr),PE (X.blk s H scope (compEnvC scope cl C X.env) fp) vx (tE G M WF ve)) (hs:∀ x,foldedSetIterable iter X.env x=pure x:=by intro _;rfl) :
  PE X (.DictComp kx vx [⟨tg,iter,lM,0⟩] scope pos) (tF G M W (.Ji (own.map (·.2)) ke ve t qY ci)):=(pe_dc g.calm g.nd hi ok hg ht hk he hs).imp fun σ H Q h=>aiy yM σ H Q h
theorem aeP {own:List Nat} {ce:E} {t:Tg} {ci:Es} (ht:∀ i∈t.slots,i∈own) {σ:L2.St} {ρ1:List Addr} {H0 H1:Hp} {Q:VK} {η:Sg} {S1:Hs} {lk:List Lk} {xs:List Vl} (aiG:∀ p,H1 p=none→H0 p=none) (s1:bf G ρ1 H1 S1) (r1:ER G ρ1 H1 η σ)
  (h1:PR G W σ ρ1 H1 ((gH (fun x S2=>match aZ t x (bR η own) with
   | none=>.bad
   | some η1=>(dB M ci η1 S2).bind fun b S3=>if b=true then (ev M ce η1 S3).bind fun y S4=>.ok (some y) S4 else .ok none S3) lk xs [] S1).bind fun ys S2=>.ok (.lst ys) S2) (Cd G H0 Q)) {J:It} (jw:JW G J ρ1 H1 lk xs) :
  tLc (fun _ H R=>R J H) (tG G t) (yc G M WF ci) (tE G M WF ce) own σ H1 Q:=by
 intro D hD
 have hD0:H0 D=none:=aiG D hD
 have hDn:D∉ρ1:=s1.free hD
 have BK:=s1.len
 have sm:Same H1 (upd H1 D (.lst [])):=fK hD
 have stD:Step ρ1 H1 (ρ1++[D]) (upd H1 D (.lst [])):=(bu sm).one hD
 have SM:bf G (ρ1++[D]) (upd H1 D (.lst [])) (S1++[.lst []]):=s1.new hD ⟨[],upd_same,au.nil⟩
 have rD:(ρ1++[D])[S1.length]? =some D:=by rw [← BK];simp
 generalize Hr:(fun (x:Vl) (S2:Hs)=>match aZ t x (bR η own) with
   | none=>(Res.bad:Res (Option Vl))
   | some η1=>(dB M ci η1 S2).bind fun b S3=>if b=true then (ev M ce η1 S3).bind fun y S4=>.ok (some y) S4 else .ok none S3)=step at h1
 refine ⟨fun i m H'=>m=xs.length - i∧i≤xs.length∧∃ aQ,Step ρ1 H1 (ρ1++[D]) H'∧bf G (ρ1++[D]) H' (S1++[.lst aQ])∧PR G W σ ρ1 H1 ((gH step lk (xs.drop i) aQ S1).bind fun ys S2=>.ok (.lst ys) S2) (Cd G H0 Q)∧aV S1.length aQ=true,⟨xs.length,by simp,Nat.zero_le _,[],stD,SM,by simpa using h1,by simp [aV]⟩,?_⟩
 rintro i m H' ⟨rfl,hi,aQ,gG,s',h',la⟩
 by_cases hl:i<xs.length
 ·refine .inr ?_
  rw [List.drop_eq_getElem_cons hl] at h'
  simp only [gH] at h'
  split at h'
  ·rename_i l'
   have l2:cP lk (S1++[.lst aQ]):=fun p hp=>by
    have e:=l' p hp
    rw [List.getElem?_append_left (aJ e)];exact e
   obtain ⟨hgo,hy⟩:=jw.go _ H' _ i xs[i] (Step.x gG) s' l2 (by simp [hl])
   refine ⟨hgo,fun H3=>∃ aQ,Step ρ1 H1 (ρ1++[D]) H3∧bf G (ρ1++[D]) H3 (S1++[.lst aQ])∧PR G W σ ρ1 H1 ((gH step lk (xs.drop (i+1)) aQ S1).bind fun ys S2=>.ok (.lst ys) S2) (Cd G H0 Q)∧aV S1.length aQ=true,fun H3 a=>⟨xs.length - (i+1),by omega,rfl,by omega,a⟩,fun v H3 y=> ?_⟩
   obtain ⟨sm3,hv⟩:=hy v H3 y
   have lN:Step (ρ1++[D]) H' (ρ1++[D]) H3:=bu sm3
   have s3:=s'.same sm3
   have Z3:step xs[i] (S1++[.lst aQ])=match aZ t xs[i] (bR η own) with
     | none=>(Res.bad:Res (Option Vl))
     | some η1=>(dB M ci η1 (S1++[.lst aQ])).bind fun b S3=>if b=true then (ev M ce η1 S3).bind fun y S4=>.ok (some y) S4 else .ok none S3:=by rw [← Hr]
   cases eb:aZ t xs[i] (bR η own) with
   | none=>rw [Z3,eb] at h';exact h'.elim
   | some η2=>
    rw [Z3,eb] at h'
    simp only at h'
    have er3:ER G (ρ1++[D]) H3 (bR η own) (wipe σ own):=((r1.step gG).step lN).wipe own
    refine ⟨ρ1++[D],S1++[.lst aQ],bR η own,xs[i],η2,s3,er3,hv,eb,fun σ4 of4 r4=>⟨xX of4 ht,ρ1++[D],η2,S1++[.lst aQ],s3,r4,?_⟩⟩
    cases ea:dB M ci η2 (S1++[.lst aQ]) with
    | bad=>rw [ea] at h';exact h'.elim
    | exc x S3=>rw [ea] at h';exact h'.elim
    | ok b S3=>
     rw [ea] at h'
     simp only [Res.bind] at h'
     refine fun ρ5 H5 st5 s5=> ?_
     cases b with
     | false=>
      simp only [Bool.false_eq_true,if_false] at h' ⊢
      by_cases c5:S3=S1++[.lst aQ]∧aQ.length<sizeLine
      ·rw [if_pos c5] at h'
       obtain ⟨rfl,_⟩:=c5
       have e5:ρ5=ρ1++[D]:=oX st5.pre (by rw [s5.len,← s3.len])
       subst e5
       exact ⟨aQ,(gG.trans lN).trans st5,s5,h',la⟩
      ·rw [if_neg c5] at h';exact h'.elim
     | true=>
      simp only [if_true] at h' ⊢
      refine ⟨ρ5,η2,S3,s5,r4.step st5,?_⟩
      cases ev6:ev M ce η2 S3 with
      | bad=>rw [ev6] at h';exact h'.elim
      | exc x S4=>rw [ev6] at h';exact h'.elim
      | ok y S4=>
       rw [ev6] at h'
       simp only [Res.bind] at h'
       refine fun ρ7 H7 st7 s7 w hw=> ?_
       by_cases c7:S4=S1++[.lst aQ]∧aQ.length<sizeLine
       ·rw [if_pos c7] at h'
        obtain ⟨rfl,hz⟩:=c7
        have e7:ρ7=ρ1++[D]:=oX (st5.trans st7).pre (by rw [s7.len,← s3.len])
        subst e7
        by_cases ly:y.lim S1.length=true
        ·rw [if_pos ly] at h'
         obtain ⟨vs,g1,g2⟩:=s7.at_ S1.length (.lst aQ) D (by simp) rD
         have nf:∀ od u,H7 D≠some (.frz od u):=fun od u z=>by rw [g1] at z;cases z
         have stE:Step (ρ1++[D]) H7 (ρ1++[D]) (upd H7 D (.lst (vs++[w]))):=⟨List.prefix_refl _,fun b o hb hn=>by
          rw [upd_ne fun e=>hn (by subst e;simp)];exact hb,fun b hb=>.inl hb,oU nf⟩
         obtain ⟨st8,s8⟩:=bf.put (ho:=.lst (vs++[w])) (o2:=.lst (aQ++[y])) s7 rD nf ⟨vs++[w],upd_same,au.step stE _ _ (g2.append (au.cons hw au.nil))⟩
         refine ⟨vs,g1,by rw [← g2.length];exact hz,aQ++[y],(((gG.trans lN).trans st5).trans st7).trans st8,by simpa using s8,h',?_⟩
         exact oA la ly
        ·rw [if_neg ly] at h';exact h'.elim
       ·rw [if_neg c7] at h';exact h'.elim
  ·exact h'.elim
 ·have e:i=xs.length:=by omega
  subst e
  rw [List.drop_length] at h'
  simp only [gH] at h'
  split at h'
  ·rename_i l'
   have l2:cP lk (S1++[.lst aQ]):=fun p hp=>by
    have e:=l' p hp
    rw [List.getElem?_append_left (aJ e)];exact e
   refine .inl ⟨jw.stop _ H' _ (Step.x gG) s' l2,?_⟩
   have sc:bf G ρ1 H' S1:=s'.cut BK s1.Ys
   have Tr:Step ρ1 H1 ρ1 H':=⟨List.prefix_refl _,gG.keep,fun a ha=>.inl ha,gG.fz⟩
   have fin:Cd G H0 Q ρ1 H' (.lst aQ) S1:=h' ρ1 H' Tr sc
   exact fin D hD0 hDn (OR.less (s'.at_ S1.length (.lst aQ) D (by simp) rD) (by rw [BK];exact la)) s'
  ·exact h'.elim
end
structure Fzd (a:Addr) (H1 H2:Hp):Prop where
 ne:∀ x,x≠a→H2 x=H1 x
 rd:∀ o,(∀ ob w,o≠.frz ob w)→Rd H1 a o→Rd H2 a o
 ins:∀ C dx fs,H1 a≠some (.ins C dx fs)
 xd:∀ fs,H1 a≠some (.xd fs)
section
variable {G:bB} {a:Addr} {ρ:List Addr} {H1 H2:Hp}
theorem Fzd.rd_ (f:Fzd a H1 H2) {x:Addr} {o:HO} (ho:∀ ob w,o≠.frz ob w) (h:Rd H1 x o):Rd H2 x o:=by
 by_cases e:x=a
 ·subst e;exact f.rd o ho h
 ·unfold Rd at h ⊢
  rw [f.ne x e];exact h
mutual
theorem VR.fz (f:Fzd a H1 H2):∀ (x:Vl) (v:V),VR G ρ H1 x v→VR G ρ H2 x v
 | .non,_,h | .bl _,_,h | .int _,_,h | .str _,_,h=>by simpa only [VR] using h
 | .tup xs,v,h=>by
  simp only [VR] at h ⊢
  obtain ⟨p,vs,e,h1,h2⟩:=h
  exact ⟨p,vs,e,h1.imp (fun q=>⟨f.rd_ (by intro _ _ z;cases z) q.1,q.2⟩) id,au.fz f xs vs h2⟩
 | .lst xs,v,h=>by
  simp only [VR] at h ⊢
  obtain ⟨p,vs,e,h1,h2⟩:=h
  exact ⟨p,vs,e,⟨f.rd_ (by intro _ _ z;cases z) h1.1,h1.2⟩,au.fz f xs vs h2⟩
 | .dct ks xs,v,h=>by
  simp only [VR] at h ⊢
  obtain ⟨p,kvs,e,h1,n,h2,h3⟩:=h
  exact ⟨p,kvs,e,f.rd_ (by intro _ _ z;cases z) h1,n,h2,au.fz f xs _ h3⟩
 | .obj c ns xs,v,h=>by
  simp only [VR] at h ⊢
  obtain ⟨p,dx,fs,e,h1,n,h2,h3⟩:=h
  refine ⟨p,dx,fs,e,?_,n,h2,au.fz f xs _ h3⟩
  rw [f.ne p fun z=>by subst z;exact f.ins _ _ _ h1];exact h1
 | .err c ns xs,v,h=>by
  simp only [VR] at h ⊢
  obtain ⟨p,d,e,hg,q⟩:=h
  refine ⟨p,d,e,hg,q.imp id fun ⟨dd,fs,e1,h1,n,h2,h3⟩=>⟨dd,fs,e1,?_,n,h2,au.fz f xs _ h3⟩⟩
  rw [f.ne dd fun z=>by subst z;exact f.xd _ h1];exact h1
 | .ref r,v,h=>by
  simp only [VR] at h ⊢
  exact h
theorem au.fz (f:Fzd a H1 H2):∀ (xs:List Vl) (vs:List V),au G ρ H1 xs vs→au G ρ H2 xs vs
 | [],_,h=>by simpa only [au] using h
 | x::xs,vs,h=>by
  simp only [au] at h ⊢
  obtain ⟨v,r,e,h1,h2⟩:=h
  exact ⟨v,r,e,VR.fz f x v h1,au.fz f xs r h2⟩
end
theorem OR.fz (f:Fzd a H1 H2) {p:Addr} {o:Ob} (ne:p≠a) (h:OR G ρ H1 p o):OR G ρ H2 p o:=by
 cases o with
 | lst xs=>obtain ⟨vs,h1,h2⟩:=h;exact ⟨vs,by rw [f.ne p ne];exact h1,au.fz f _ _ h2⟩
 | dct ks xs=>obtain ⟨vs,h1,h2,h3⟩:=h;exact ⟨vs,by rw [f.ne p ne];exact h1,h2,au.fz f _ _ h3⟩
 | ins c ns xs=>obtain ⟨dx,vs,h1,h2,h3⟩:=h;exact ⟨dx,vs,by rw [f.ne p ne];exact h1,h2,au.fz f _ _ h3⟩
 | zU ks xs=>obtain ⟨vs,od,h1,h2,h3⟩:=h;exact ⟨vs,od,by rw [f.ne p ne];exact h1,h2,au.fz f _ _ h3⟩
theorem bf.fz {S:Hs} (f:Fzd a H1 H2) (n:a∉ρ) (s:bf G ρ H1 S):bf G ρ H2 S:=⟨s.len,s.nd,fun r o b h1 h2=>(s.at_ r o b h1 h2).fz f fun e=>n (e ▸ List.mem_of_getElem? h2)⟩
theorem ER.fz {η:Sg} {σ:L2.St} (f:Fzd a H1 H2) (r:ER G ρ H1 η σ):ER G ρ H2 η σ:=⟨r.len,fun i x e=>let ⟨v,h1,h2⟩:=r.at_ i x e;⟨v,h1,VR.fz f x v h2⟩⟩
theorem ajr {H:Hp} {kvs:List (Key × V)} {od:Obj} (h:H a=some (.dK kvs)):Fzd a H (upd H a (.frz od (.dK kvs))) where
 ne:=fun x e=>upd_ne e
 rd:=fun o ho q=>by
  rcases q with q | ⟨ob,q⟩
  ·rw [h] at q;cases q;exact .inr ⟨od,upd_same⟩
  ·rw [h] at q;cases q
 xd:=fun _ z=>by rw [h] at z;cases z
 ins:=fun C dx fs q=>by rw [h] at q;cases q
theorem agR {H:Hp} {kvs:List (Key × V)} {od:Obj} (h:H a=some (.frz od (.dK kvs))):Fzd a H (upd H a (.dK kvs)) where
 ne:=fun x e=>upd_ne e
 rd:=fun o ho q=>by
  rcases q with q | ⟨ob,q⟩
  ·rw [h] at q;cases q;exact absurd rfl (ho _ _)
  ·rw [h] at q;cases q;exact .inl upd_same
 xd:=fun _ z=>by rw [h] at z;cases z
 ins:=fun C dx fs q=>by rw [h] at q;cases q
theorem abY {H H':Hp} {ρ':List Addr} {kvs:List (Key × V)} {od:Obj} (h:H a=some (.dK kvs)) (n:a∉ρ) (st:Step ρ (upd H a (.frz od (.dK kvs))) ρ' H'):H' a=some (.frz od (.dK kvs))∧a∉ρ'∧Step ρ H ρ' (upd H' a (.dK kvs)):=by
 have e:=st.keep a _ upd_same n
 refine ⟨e,st.out upd_same n,st.pre,fun b o hb hn=> ?_,fun b hb=> ?_,fun b od' u' hb=> ?_⟩
 ·by_cases c:b=a
  ·subst c;rw [h] at hb;cases hb;exact upd_same
  ·rw [upd_ne c];exact st.keep b o (by rw [upd_ne c];exact hb) hn
 ·rcases st.new b hb with q | q
  ·exact .inl q
  ·refine .inr ?_
   have c:b≠a:=fun c=>by subst c;rw [upd_same] at q;cases q
   rw [upd_ne c] at q;exact q
 ·have c:b≠a:=fun c=>by subst c;rw [h] at hb;cases hb
  rw [upd_ne c]
  exact st.fz b od' u' (by rw [upd_ne c];exact hb)
end
section
variable {G:bB} {M:aF} {W:WX} {X:Cx} {k:Nat}
def tSI (G:bB) (i:Nat):TI:=fun σ H R=>∃ (ρ:List Addr) (S:Hs) (a:Addr) (od:Obj) (kvs:List (Key × V)) (ks:List Key) (xs:List Vl),bf G ρ H S∧H a=some (.frz od (.dK kvs))∧a∉ρ∧σ[i]? =some (some (.ref a))∧kvs.map (·.1)=ks∧au G ρ H xs (kvs.map (·.2))∧∀ J,JW G J ρ H [] (bQ ks xs)→R J H
theorem K9:∀ {ks:List Key} {xs:List Vl} {i:Nat} {x:Vl},(bQ ks xs)[i]? =some x→∃ kk y,ks[i]? =some kk∧xs[i]? =some y∧x=.tup [match kk with | .inl i=>.int i | .inr s=>.str s,y]
 | [],_,_,_,e=>by simp [bQ] at e
 | _::_,[],_,_,e=>by simp [bQ] at e
 | kk::ks,y::xs,0,z,e=>by simp [bQ] at e;exact ⟨kk,y,rfl,rfl,e.symm⟩
 | kk::ks,y::xs,i+1,z,e=>by
  simp only [bQ,List.getElem?_cons_succ] at e ⊢
  exact K9 e
theorem GX:∀ {ks:List Key} {xs:List Vl},(bQ ks xs).length=min ks.length xs.length
 | [],_=>by simp [bQ]
 | _::_,[]=>by simp [bQ]
 | x::xs,y::ys=>by simp only [bQ,List.length_cons,GX];omega
theorem JW.items {ρ:List Addr} {H:Hp} {a:Addr} {od:Obj} {kvs:List (Key × V)} {ks:List Key} {xs:List Vl} (ha:H a=some (.frz od (.dK kvs))) (n:a∉ρ) (hk:kvs.map (·.1)=ks) (hv:au G ρ H xs (kvs.map (·.2))):JW G (Iti a od kvs) ρ H [] (bQ ks xs) where
 go:=fun ρ' H' S i x st s l e=>by
  obtain ⟨kk,y,e1,e2,rfl⟩:=K9 e
  have lk:i<kvs.length:=by rw [← hk] at e1;simpa using aJ e1
  have ha':=st.keep a _ ha n (by intro φ q;cases q)
  refine ⟨⟨ha',lk⟩,fun v H2 ⟨T,k',v',ek,ev,hT,eH⟩=> ?_⟩
  subst ev eH
  have ek1:k'=kk:=by
   rw [← hk,List.getElem?_map,ek] at e1
   simpa using e1
  subst ek1
  have hv':=(au.fV st _ _ hv).at_ e2 (v:=v') (by rw [List.getElem?_map,ek];rfl)
  exact Fv s hT (by cases k'<;>simp only [VR,kV]) hv'
 stop:=fun ρ' H' S st s l=>by
  have ha':=st.keep a _ ha n (by intro φ q;cases q)
  refine ⟨ha',?_⟩
  rw [GX,← hk,List.length_map,hv.length,List.length_map]
  exact Nat.le_of_eq (Nat.min_self _).symm
theorem XC {i kk:Nat} {x:Str} {px cH oZ tM:Pos} {uD:List Expr} (hN:X.N[i]? =some x) (hv:Vis X.env.scope x) (hd:(x==("__debug__":Str))=false) (Ab:(x==("__classdict__":Str))=false) (fU:attributeBase (.Name x px) "items" X.env (eval (.Name x px) X.env)=eval (.Name x px) X.env:=by rfl) (fO:(cH.endLine==oZ.line)=true:=by rfl) :
  PI X (.Tuple uD kk tM) (.Call (.Attribute (.Name x px) "items" cH) [] [] oZ) (tSI G i):=(pi_items (pe_var hN hv hd Ab) fU fO).imp fun σ H R ⟨ρ,S,a,od,kvs,ks,xs,s,ha,n,hσ,hk,hv,q⟩=>⟨_,hσ,a,od,kvs,rfl,ha,q _ (JW.items ha n hk hv)⟩
theorem ahP {own:List Nat} {ce:E} {t:Tg} {i:Nat} {ci:Es} (ht:∀ i∈t.slots,i∈own) {σ:L2.St} {ρ:List Addr} {H:Hp} {Q:VK} {η:Sg} {S:Hs} (s:bf G ρ H S) (r:ER G ρ H η σ) (h:PR G W σ ρ H (d9 M (.yg own ce t i ci) η S) (Cd G H Q)) :
  (∃ a kvs,H a=some (.dK kvs)∧∀ od,tLc (tSI G i) (tG G t) (yc G M WF ci) (tE G M WF ce) own σ (upd H a (.frz od (.dK kvs))) (fun v H'=>H' a=some (.frz od (.dK kvs))∧Q v (upd H' a (.dK kvs))))∨tLc (tSI G i) (tG G t) (yc G M WF ci) (tE G M WF ce) own σ H Q:=by
 simp only [d9] at h
 split at h
 ·rename_i ks xs eη
  obtain ⟨v,e1,hv⟩:=r.at_ i _ eη
  simp only [VR] at hv
  obtain ⟨a,kvs,rfl,ha,n,hk,xO⟩:=hv
  rcases ha with ha | ⟨od,ha⟩
  ·refine .inl ⟨a,kvs,ha,fun od=> ?_⟩
   have f:=ajr (od:=od) ha
   have hf:(upd H a (.frz od (.dK kvs))) a=some (.frz od (.dK kvs)):=upd_same
   refine ⟨ρ,S,a,od,kvs,ks,xs,s.fz f n,hf,n,e1,hk,au.fz f _ _ xO,fun J jw=> ?_⟩
   suffices hlc:tLc (fun _ H R=>R J H) (tG G t) (yc G M WF ci) (tE G M WF ce) own σ (upd H a (.frz od (.dK kvs))) (fun v H'=>H' a=some (.frz od (.dK kvs))∧Q v (upd H' a (.dK kvs))) from hlc
   refine aeP (W:=W) (H0:=upd H a (.frz od (.dK kvs))) ht (fun p z=>z) (s.fz f n) (r.fz f) ?_ jw
   generalize YC:((gH _ [] (bQ ks xs) [] S).bind fun ys S2=>(.ok (.lst ys) S2:Res Ob))=res at h ⊢
   cases res with
   | ok o S'=>
    intro ρ' H' st s' p hp hn ho hs
    obtain ⟨q1,q2,q3⟩:=abY ha n st
    have f':=agR q1
    have np:p≠a:=fun z=>by subst z;rw [hf] at hp;cases hp
    have hHp:H p=none:=by rw [upd_ne np] at hp;exact hp
    exact ⟨q1,h ρ' _ q3 (s'.fz f' q2) p hHp hn (ho.fz f' np) (hs.fz f' (by simp [q2,Ne.symm np]))⟩
   | exc x S'=>
    exfalso
    revert YC
    have nox:∀ (step:Vl→Hs→Res (Option Vl)) (lk:List Lk) (xs aQ:List Vl) (S:Hs) (x:Xc) (S':Hs),gH step lk xs aQ S≠.exc x S':=by
     intro step lk xs
     induction xs with
     | nil=>intro aQ S x S';simp only [gH];split<;>simp
     | cons y ys ih=>
      intro aQ S x S'
      simp only [gH]
      split
      ·split
       ·split
        ·split
         ·split
          ·exact ih _ _ _ _
          ·simp
         ·exact ih _ _ _ _
        ·simp
       ·simp
      ·simp
    intro YC
    cases ec:gH _ [] (bQ ks xs) [] S with
    | ok ys S2=>rw [ec] at YC;cases YC
    | exc x S2=>exact nox _ _ _ _ _ _ _ ec
    | bad=>rw [ec] at YC;cases YC
   | bad=>exact h.elim
  ·refine .inr ⟨ρ,S,a,od,kvs,ks,xs,s,ha,n,e1,hk,xO,fun J jw=> ?_⟩
   have hlc:tLc (fun _ H R=>R J H) (tG G t) (yc G M WF ci) (tE G M WF ce) own σ H Q:=aeP (W:=W) (H0:=H) ht (fun p z=>z) s r h jw
   exact hlc
 ·exact h.elim
theorem YF {jr:Expr} {lM:List Expr} {scope:Scope} {own:List (Str × Nat)} {pos:Pos} {ce:E} {t:Tg} {ci:Es} [bT G X] (g:Good G k X) {i j kk:Nat} {x y:Str} {px py aaU cH oZ tM:Pos} {uD:List Expr} (hy:X.N[i]? =some y) (hyl:X.env.scope.names.lookup y=some .local)
  (hsw:swapsWith (.ListComp jr [⟨.Tuple uD kk tM,.Call (.Attribute (.Name x px) "items" cH) [] [] oZ,lM,0⟩] scope pos) (some (.Name y py)) aaU.line X.env=pure true) (yM:∀ i∈t.slots,i∈own.map (·.2)) (hN:X.N[j]? =some x) (hv:Vis X.env.scope x) (hd:(x==("__debug__":Str))=false) (Ab:(x==("__classdict__":Str))=false) (ok:BlkOk X.N X.env.scope scope own)
  (hg:∀ (s:Shared) (H:Hp) (C:Addr) (cl:List (Str × Addr)) (fp:List Addr),PG (X.blk s H scope (compEnvC scope cl C X.env) fp) (.Tuple uD kk tM) (tG G t)) (ht:∀ (s:Shared) (H:Hp) (C:Addr) (cl:List (Str × Addr)) (fp:List Addr),PTs (X.blk s H scope (compEnvC scope cl C X.env) fp) lM (yc G M WF ci))
  (he:∀ (s:Shared) (H:Hp) (C:Addr) (cl:List (Str × Addr)) (fp:List Addr),PE (X.blk s H scope (compEnvC scope cl C X.env) fp) jr (tE G M WF ce)) (fU:attributeBase (.Name x px) "items" X.env (eval (.Name x px) X.env)=eval (.Name x px) X.env:=by rfl) (fO:(cH.endLine==oZ.line)=true:=by rfl) (hs:∀ z,foldedSetIterable (.Call (.Attribute (.Name x px) "items" cH) [] [] oZ) X.env z=pure z:=by intro _;rfl) (fr:Bool) :
  PS X (.Assign [.Name y py] (.ListComp jr [⟨.Tuple uD kk tM,.Call (.Attribute (.Name x px) "items" cH) [] [] oZ,lM,0⟩] scope pos) aaU) (tC G M W (.asg (.nm i) (if fr then .inl (.yg (own.map (·.2)) ce t j ci) else .Cz (.yg (own.map (·.2)) ce t j ci)))):=by
 have hp:=ps_setLc g.calm g.nd hy hyl hsw (XC (G:=G) hN hv hd Ab fU fO) ok hg ht he hs
 refine ⟨fun pins s0 σ H D I ⟨ρ,η,S,s,r,h⟩=> ?_⟩
 have h2:PR G W σ ρ H (d9 M (.yg (own.map (·.2)) ce t j ci) η S) (Cd G H fun v H'=>D.nx (σ.set i (some v)) H'):=by
  cases fr with
  | true=>
   simp only [if_true,aP,ev,aZ] at h
   cases eo:d9 M (.yg (own.map (·.2)) ce t j ci) η S with
   | ok o S1=>
    rw [eo] at h
    exact fun ρ1 H1 st s1 p hp hn ho hs=>h ρ1 H1 _ st s1 ((r.step st).set i (ho.inl hn))
   | exc x S1=>rw [eo] at h;exact fun ρ1 H1 st s1=>h ρ1 H1 σ st s1 (r.step st)
   | bad=>rw [eo] at h;exact h
  | false=>
   simp only [Bool.false_eq_true,if_false,aP,ev,aZ] at h
   cases eo:d9 M (.yg (own.map (·.2)) ce t j ci) η S with
   | ok o S1=>
    rw [eo] at h
    exact fun ρ1 H1 st s1 p hp hn ho hs=>h (ρ1++[p]) H1 _ (st.one hp) hs ((r.step (st.one hp)).set i (by simp only [VR];exact ⟨p,rfl,by rw [← s1.len];simp⟩))
   | exc x S1=>rw [eo] at h;exact fun ρ1 H1 st s1=>h ρ1 H1 σ st s1 (r.step st)
   | bad=>rw [eo] at h;exact h
 rcases ahP yM s r h2 with ⟨a,kvs,ha,q⟩ | q
 ·exact (ps_lock hp).run pins s0 σ H D I ⟨a,.dK kvs,ha,True.intro,q⟩
 ·exact hp.run pins s0 σ H D I q
end
end Oz
namespace Oz
open PySem L2 PyProof.Rows PySem.Spec
def relS (scope sc:Scope):Scope:={ scope with names:=scope.names.map fun (n,k)=>if (k==.free&&sc.kind==.function&&sc.names.lookup n==some .cell) then (n,.cell) else (n,k) }
section
variable {G:bB} {k n:Nat} {X:Cx} {M:aF} {W:WX} {f:Addr} {fd:FuncData} {ps:List Str} {c x:Str} {p pos:Pos} {dxs:List Vl} {dvs:List V} {mv:List Value} {cs:Es}
theorem Mp:PE X (.Dict [] [] pos) (tF G M W (.zq [] .nil)):=pe_dnewK.imp fun σ H Q ⟨ρ,η,S,s,r,h⟩ q hq=>by
 simp only [d9,evs,aV,List.nodup_nil,List.length_nil,true_and,and_true,if_true,Nat.zero_le] at h
 exact jC s (Step.refl _ _) s h hq fun ρ' gG=>⟨[],upd_same,rfl,au.nil⟩
theorem ad8 [bT G X] (g:Good G (k+1) X) (F:qu X.prog X.w X.K X.mg X.base k f fd ps (spI G M (0+1+dxs.length) (dot c "__init__"))) (mk:Mk X.K (G.cl c) f) (hg:Gl X x) (hm:X.mg x=some (.ref (G.cl c))) (hb:KBn X.K fd ps (0+1) [] (fun us ws=>us++ws++mv) (fun vs zs=>vs++zs++dvs)) (hc:Az G dxs dvs) (tk:Takes X W)
  (sX:(x==("__debug__":Str))=false:=by decide) :
  PE X (.Call (.Name x p) [] [] pos) (tF G M W (.new c ((Es.nil:Es).app dxs))):=by
 refine ⟨fun pins s σ H Q I h0=> ?_⟩
 obtain ⟨ρ,η,S,s0,r,h⟩:=h0
 have h1:PR G W σ ρ H (Cj S (M.cal (dot c "__init__") (.ref S.length::dxs) (S++[.ins c [] []]))) (Cd G H Q):=by
  simp only [d9] at h
  rw [qH] at h
  simpa only [evs,Res.bind,List.nil_append] using h
 refine wpAny_Call_Name_kw (ld_glob I hg hm ?_ sX)
 refine PySem.W.callWith_K0 (first:=[]) I.kIn mk.kp ?_
 refine WT (ks:=[]) (us:=[]) (vs:=[]) (ws:=[]) (zs:=[]) mk F g.rm g.Mf hb tk I .nil .nil rfl rfl fun y dx hy Zj ne=> ?_
 exact Ue s0 (Step.refl _ _) s0 hy Zj ne (hc _ _) (by omega) h1
theorem nw0 [bT G X] (g:Good G (k+1) X) (cm:Mak X.prog X.w X.K X.mg X.base G M k x c 0 [] dxs) (tk:Takes X W) (hcs:cs=(Es.nil:Es).app dxs:=by simp only [Es.app,Es.cat]<;>rfl) (hg:Gl X x:=by rfl) (sX:(x==("__debug__":Str))=false:=by decide):PE X (.Call (.Name x p) [] [] pos) (tF G M W (.new c cs)):=by
 obtain ⟨f,fd,ps,mv,dvs,F,mk,hm,hb,hc⟩:=cm.ex
 subst hcs
 exact ad8 g F mk hg hm hb hc tk sX
end
section
variable {K:PySem.W.Frag} {x bA:Str} {params:Arguments} {body:List Stmt} {scope:Scope} {dvs:List V} {kws:List (Str × V)} {f:Addr} {fd:FuncData} {ps:List Str}
theorem aiX (F:FunD K x bA params body scope dvs [] f fd) (hd:dvs≠[]) (n j:Nat)
  (h:∀ (T:Addr) (kV wW pm:Value) (an:Option Addr) (cI ct:Value) (us its:List Value),us.length=n→its.length=dvs.length→
   ∃ k,bindArgs (PySem.W.fnOf x bA params body scope (.ref T) kV wW pm an cI ct) ⟨us,[]⟩=seqItems? (.ref T)>>=k∧k (some its.toArray)=pure (ps.zip (us++its.drop j))):∃ mv,KBn K fd ps n [] (fun us ws=>us++ws++mv) (fun vs zs=>vs++zs++dvs.drop j):=by
 obtain ⟨oc,od,dV,kV,wW,pm,an,cI,ct,XX,rfl,lk,Ab,hD,hK⟩:=F.ex
 rcases hD with ⟨e,_⟩ | ⟨_,T,o,its,m,rfl,lT,oT,rT⟩
 ·exact absurd e hd
 ·refine ⟨its.drop j,⟨fun s us ws X l1 l2=> ?_,fun r1 r2=>(r1.append r2).append (rT.drop _)⟩⟩
  have ew:ws=[]:=List.eq_nil_of_length_eq_zero l2
  subst ew
  obtain ⟨k,e1,e2⟩:=h T kV wW pm an cI ct us its l1 rT.length.symm
  refine BindsTo.of_looks fun M=> ?_
  show PySem.W.Looks M s.heap (bindArgs _ ⟨us,[]⟩) (ps.zip (us++[]++its.drop j))
  rw [e1,List.append_nil]
  exact looks_items X lT oT (.of_pure e2)
theorem abo {st:Stmt} {oc:Value} {od an odT:Option Addr} {XX slT:Array (Option Value)} {kV wW pm cI ct:Value} {T:Addr} {its:Array Value} {nT:Nat} (l:K.lookup f=some ⟨oc,od,.func (PySem.W.fnOf x bA (defArgs st) (defBody st) (defScope st) (.ref T) kV wW pm an cI ct),XX⟩)
  (c:PySem.W.codeIn K cI bA=true) (k:PySem.W.keepIn K (.ref f)=true) (lT:K.lookup T=some ⟨.type "tuple",odT,.seq its nT,slT⟩) (rT:Vals dvs its.toList) (Km:dvs≠[]) (hk:KwdV K kV kws):FunD K x bA (defArgs st) (defBody st) (defScope st) dvs kws f (PySem.W.fnOf x bA (defArgs st) (defBody st) (defScope st) (.ref T) kV wW pm an cI ct):=
 ⟨⟨oc,od,.ref T,kV,wW,pm,an,cI,ct,XX,rfl,l,c,.inr ⟨Km,T,_,its.toList,nT,rfl,lT,by simp,rT⟩,hk⟩,k⟩
end
end Oz
namespace Oz
open PySem L2
section
variable {M:aF} {c:C} {cs:Cs} {a b e o1 i1 o2 i2:E} {es:Es} {f:F} {t:Tg} {s:Src} {η η1 η2:Sg} {S S1 S2 S3 S4 S5 T T2:Hs} {x y z k k2 x2 v:Vl} {o:Ob} {r:Out} {xs ys:List Vl} {i:Nat}
theorem ajM {m n:Int} (hi:η[i]? =some (some (.int m))) (h:ev M e η S=.ok (.int n) S1):aP M (.aug i .Add e) η S=.nx (η.set i (some (.int (m+n)))) S1:=by simp only [aP,hi,h,Res.out]
theorem aaK {q:Nat} {cl:Str} {ns:List Str} {vs:List Vl} {m:Str} (h:ev M e η S=.ok y S1) (ha:ev M a η S1=.ok (.ref q) S2) (hq:S2[q]? =some (.ins cl ns vs)) (hl:ns.length<1000):aP M (.fset a m e) η S=.nx η (S2.set q (.ins cl (Fy ns vs m y).1 (Fy ns vs m y).2)):=by
 simp only [aP,h,ha,Res.out,hq,if_pos hl]
theorem qK (h:ev M e η S=.ok y S1) (ho:ev M a η S1=.ok x S2) (hi:ev M b η S2=.ok k S3) (hs:sU S3 x k y=some T):aP M (.uP a b e) η S=.nx η T:=by
 simp only [aP,h,ho,hi,Res.out,hs]
theorem adQ (h:ev M e η S=.ok (.tup [y,z]) S1) (ho:ev M o1 η S1=.ok x S2) (hi:ev M i1 η S2=.ok k S3) (hs:sU S3 x k y=some T) (ho2:ev M o2 η T=.ok x2 S4) (Th:ev M i2 η S4=.ok k2 S5) (CJ:sU S5 x2 k2 z=some T2):aP M (.Vs o1 i1 o2 i2 e) η S=.nx η T2:=by
 simp only [aP,h,ho,hi,Res.out,hs,ho2,Th,CJ]
theorem aiH {j:Nat} (ha:ev M a η S=.ok x S1) (hb:ev M b η S1=.ok y S2):aP M (.par i j a b) η S=.nx ((η.set i (some x)).set j (some y)) S2:=by simp only [aP,ha,hb,Res.out]
theorem aji {test:E} {body:Cs} (h:FW (fun η1 S2=>ev M test η1 S2) (fun η1 S2=>exec M body η1 S2) M.fuel η S=r):aP M (.whl test body) η S=r:=by simp only [aP,h]
theorem Ks {p q:CmpOp} {d1 d2:Bool} (ha:ev M a η S=.ok x S1) (hb:ev M b η S1=.ok y S2) (hp:cmpop p S2 x y=some true) (hc:ev M e η S2=.ok z S3) (hq:cmpop q S3 y z=some d2):ev M (.Ru p q a b e) η S=.ok (.bl d2) S3:=by
 simp only [ev,ha,hb,Res.bind,ig,hp,if_true,hc,hq]
theorem Ra (ha:ev M a η S=.ok (.bl true) S1):ev M (.bor a b) η S=.ok (.bl true) S1:=by simp only [ev,ha,Res.bind]
theorem ajo {m n:Int} (ha:ev M a η S=.ok (.int m) S1) (hb:ev M b η S1=.ok (.int n) S2):ev M (.mn a b) η S=.ok (.int (if n<m then n else m)) S2:=by simp only [ev,ha,hb,Res.bind]
theorem ai5 {out:Str} (h:evs M es η S=.ok xs S1) (ho:qL xs Str.empty=some out):ev M (.fs es) η S=.ok (.str out) S1:=by simp only [ev,h,Rr,Res.bind,ig,ho]
theorem V7 {cl:Str} {w:Str} (ha:ev M a η S=.ok x S1) (hm:lH S1 x cl "__repr__"=true) (hc:M.cal (dot cl "__repr__") [x] S1=.ok (.val (.str w)) S2):ev M (.Ko cl a) η S=.ok (.str w) S2:=by
 simp only [ev,ha,hm,Res.bind,pX,hc,if_true,Rr,Rv.v]
theorem TQ {cl:Str} {ns:List Str} {vs:List Vl} (ha:ev M a η S=.ok x S1) (h:lD S1 x=some (cl,ns,vs)):ev M (.isC cl a) η S=.ok (.bl true) S1:=by simp only [ev,ha,Res.bind,h,if_true]
theorem aiz {cl:Str} {o:Ob} (hs:evs M es η S=.ok xs S1) (hS:NR S1) (hc:M.cal (dot cl "__init__") (.ref S1.length::xs) (S1++[.ins cl [] []])=.ok (.val .non) (S1++[o])) (ho:o.nr=true):d9 M (.new cl es) η S=.ok o S1:=by
 simp only [d9,hs,Res.bind,hc]
 exact YQ hS ho
theorem Uq (ha:ev M a η S=.ok x S1) (hx:Bf S1 x=some xs):d9 M (.YK a) η S=.ok (.lst xs) S1:=by simp only [d9,ha,Res.bind,hx]
theorem Td (ha:ev M a η S=.ok x S1) (hx:Gq S1 x=some xs):d9 M (.Yc a) η S=.ok (.lst xs) S1:=by simp only [d9,ha,Res.bind,hx]
theorem Gr:d9 M (.zq [] .nil) η S=.ok (.dct [] []) S:=by
 simp only [d9,evs,aV,List.nodup_nil,List.length_nil,true_and,and_true,if_true,Nat.zero_le]
theorem aaC {ks:List Key} {vs:List Vl} (h:evs M es η (S++[.dct [] []])=.ok vs (S++[.dct [] []])) (hn:dH vs=true) (hd:ks.Nodup) (hl:ks.length=vs.length) (h15:ks.length≤15):d9 M (.zq ks es) η S=.ok (.dct ks vs) S:=by
 simp only [d9,h]
 rw [if_pos ⟨trivial,mU _ _ hn,hd,hl,h15⟩]
theorem Gx {st:Int} {lk:List Lk} (h:ev M e η S=.ok v S1) (hv:lZ S1 v=some (lk,xs)):pH M (.YX e st) η S=.ok (lk,iH st xs) S1:=by simp only [pH,h,Res.bind,ig,hv]
end
theorem aab {test:Sg→Hs→Res Vl} {body:Sg→Hs→Out} (I:Nat→Sg→Hs→Prop)
  (hs:∀ m η S,I (m+1) η S→test η S=.ok (.bl true) S∧∃ η2 S2,body η S=.nx η2 S2∧I m η2 S2) (h0:∀ η S,I 0 η S→test η S=.ok (.bl false) S):∀ (m fuel:Nat) (η:Sg) (S:Hs),m<fuel→I m η S→∃ η2 S2,FW test body fuel η S=.nx η2 S2∧I 0 η2 S2
 | m,0,η,S,h,_=>by omega
 | 0,fuel+1,η,S,h,i=>⟨η,S,by unfold FW;rw [h0 η S i],i⟩
 | m+1,fuel+1,η,S,h,i=>by
  obtain ⟨h1,η2,S2,h2,i2⟩:=hs m η S i
  obtain ⟨η3,S3,h3,i3⟩:=aab I hs h0 m fuel η2 S2 (by omega) i2
  exact ⟨η3,S3,by unfold FW;rw [h1];simp only [h2,h3],i3⟩
section
variable {M:aF} {own:List Nat} {jr ke ve:E} {t:Tg} {s:Src} {η:Sg} {S S1:Hs} {lk:List Lk} {xs:List Vl}
theorem fM (lk:List Lk) (xs:List Vl) (f:Vl→Vl) (h:pH M s η S=.ok (lk,xs) S1) (hl:cP lk S1) (hz:xs.length≤1000000) (hn:∀ x∈xs,(f x).nr=true)
  (hs:∀ x∈xs,∀ aQ:List Vl,dH aQ=true→∃ η1,aZ t x (bR η own)=some η1∧ev M jr η1 (S1++[.lst aQ])=.ok (f x) (S1++[.lst aQ])):d9 M (.comp own jr t s .nil) η S=.ok (.lst (xs.map f)) S1:=by
 rw [Lw lk xs (fun x=>some (f x)) h hl hz (fun x hx y e=>by cases e;exact hn x hx) fun x hx aQ ha=>by
  obtain ⟨η1,h1,h2⟩:=hs x hx aQ ha
  exact ⟨η1,f x,h1,h2,rfl⟩]
 simp
theorem Rg {step:Vl→Hs→Res (Option (Vl × Vl))} (hl:cP lk S) (g:Vl→Key × Vl):∀ (xs:List Vl) (ks:List Key) (vs:List Vl),ks.length+xs.length≤1000000→dH vs=true→(∀ x∈xs,(g x).2.nr=true)→
  (∀ x∈xs,∀ ks vs,dH vs=true→∃ kx,kx.key=some (g x).1∧step x (S++[.dct ks vs])=.ok (some (kx,(g x).2)) (S++[.dct ks vs]))→uh step lk xs ks vs S=.ok (j6 (xs.map g) ks vs) S
 | [],ks,vs,_,_,_,_=>by unfold uh;rw [if_pos hl];rfl
 | x::xs,ks,vs,hz,hv,hn,hs=>by
  obtain ⟨kx,h1,h2⟩:=hs x List.mem_cons_self ks vs hv
  have ny:=hn x List.mem_cons_self
  have Ze:ks.length<sizeLine:=by
   have:(1000000:Nat)<sizeLine:=by decide
   rw [List.length_cons] at hz;omega
  unfold uh
  rw [if_pos hl,h2]
  simp only
  rw [if_pos ⟨trivial,Ze⟩]
  simp only [h1]
  rw [if_pos (R9 _ _ ny)]
  have hk:(putD ks vs (g x).1 (g x).2).1.length≤ks.length+1:=by
   unfold putD
   split<;>simp
  have hr:dH (putD ks vs (g x).1 (g x).2).2=true:=by
   unfold putD
   split
   ·have:∀ (ks:List Key) (vs:List Vl),dH vs=true→dH (mG (g x).1 (g x).2 ks vs)=true:=by
     intro ks
     induction ks with
     | nil=>intro vs _;simp [mG,dH]
     | cons k ks ih=>
      intro vs h
      cases vs with
      | nil=>simp [mG,dH]
      | cons v vs=>
       simp only [dH,Bool.and_eq_true] at h
       simp only [mG,dH,Bool.and_eq_true]
       refine ⟨?_,ih vs h.2⟩
       split
       ·exact ny
       ·exact h.1
    exact this ks vs hv
   ·exact nQ hv (by simp only [dH,ny,Bool.and_self])
  rw [List.length_cons] at hz
  rw [Rg hl g xs _ _ (by omega) hr (fun y hy=>hn y (List.mem_cons_of_mem _ hy)) fun y hy=>hs y (List.mem_cons_of_mem _ hy)]
  rfl
theorem Qg (lk:List Lk) (xs:List Vl) (g:Vl→Key × Vl) (h:pH M s η S=.ok (lk,xs) S1) (hl:cP lk S1) (hz:xs.length≤1000000) (hn:∀ x∈xs,(g x).2.nr=true)
  (hs:∀ x∈xs,∀ ks vs,dH vs=true→∃ η1 kx,aZ t x (bR η own)=some η1∧ev M ke η1 (S1++[.dct ks vs])=.ok kx (S1++[.dct ks vs])∧kx.key=some (g x).1∧ev M ve η1 (S1++[.dct ks vs])=.ok (g x).2 (S1++[.dct ks vs])) :
  d9 M (.Ji own ke ve t s .nil) η S=.ok (.dct (j6 (xs.map g) [] []).1 (j6 (xs.map g) [] []).2) S1:=by
 simp only [d9,h,Res.bind]
 rw [Rg hl g xs [] [] (by rw [List.length_nil];omega) (by simp only [dH]) hn fun x hx ks vs hv=>by
  obtain ⟨η1,kx,e1,e2,e3,e4⟩:=hs x hx ks vs hv
  exact ⟨kx,e3,by simp only [e1,dB,if_true,e2,e4,Res.bind]⟩]
theorem aag {i:Nat} {ks:List Key} {vs:List Vl} (f:Vl→Vl) (hi:η[i]? =some (some (.dct ks vs))) (hz:ks.length≤1000000) (hn:∀ x∈bQ ks vs,(f x).nr=true)
  (hs:∀ x∈bQ ks vs,∀ aQ:List Vl,dH aQ=true→∃ η1,aZ t x (bR η own)=some η1∧ev M jr η1 (S++[.lst aQ])=.ok (f x) (S++[.lst aQ])):d9 M (.yg own jr t i .nil) η S=.ok (.lst ((bQ ks vs).map f)) S:=by
 have hl:∀ (ks:List Key) (vs:List Vl),(bQ ks vs).length≤ks.length:=by
  intro ks
  induction ks with
  | nil=>intro vs;simp [bQ]
  | cons k ks ih=>
   intro vs
   cases vs with
   | nil=>simp [bQ]
   | cons v vs=>simp only [bQ,List.length_cons];have:=ih vs;omega
 simp only [d9,hi]
 have key:∀ F:Vl→Hs→Res (Option Vl),(∀ x∈bQ ks vs,∀ aQ:List Vl,dH aQ=true→F x (S++[.lst aQ])=.ok (some (f x)) (S++[.lst aQ]))→(gH F [] (bQ ks vs) [] S).bind (fun ys S2=>Res.ok (Ob.lst ys) S2)=.ok (.lst ((bQ ks vs).map f)) S:=fun F hF=>by
  rw [uv (fun x=>some (f x)) (aU S) (bQ ks vs) [] (by have:=hl ks vs;rw [List.length_nil];omega) (by simp only [dH]) (fun x hx y e=>by cases e;exact hn x hx) hF]
  simp [Res.bind]
 exact key _ fun x hx aQ ha=>by
  obtain ⟨η1,h1,h2⟩:=hs x hx aQ ha
  simp only [h1,dB,if_true,h2,Res.bind]
end
theorem acn {k j:Key} {y:Vl}:∀ {ks:List Key} {vs:List Vl},ks.length=vs.length→cG (putD ks vs k y).1 (putD ks vs k y).2 j=if j=k then some y else cG ks vs j:=by
 have rep:∀ (ks:List Key) (vs:List Vl),ks.length=vs.length→k∈ks→cG ks (mG k y ks vs) j=if j=k then some y else cG ks vs j:=by
  intro ks
  induction ks with
  | nil=>intro vs _ h;cases h
  | cons m ks ih=>
   intro vs hl hk
   cases vs with
   | nil=>simp at hl
   | cons v vs=>
    simp only [mG,cG]
    by_cases c:m=j
    ·subst c
     rw [if_pos rfl]
     by_cases d:m=k
     ·rw [if_pos d,if_pos d]
     ·rw [if_neg d,if_neg d,if_pos rfl]
    ·rw [if_neg c,if_neg c]
     by_cases e:k∈ks
     ·exact ih vs (by simpa using hl) e
     ·-- then k is m
      have em:k=m:=by
       rcases List.mem_cons.mp hk with h | h
       ·exact h
       ·exact absurd h e
      subst em
      rw [if_neg fun h=>c h.symm]
      have ajB:∀ (ks:List Key) (vs:List Vl),k∉ks→ks.length=vs.length→mG k y ks vs=vs:=by
       intro ks
       induction ks with
       | nil=>intro vs _ h;cases vs with
        | nil=>rfl
        | cons _ _=>simp at h
       | cons m ks ih2=>
        intro vs h hl
        cases vs with
        | nil=>simp at hl
        | cons v vs=>
         simp only [mG]
         rw [if_neg fun z=>h (by rw [z];exact List.mem_cons_self),ih2 vs (fun z=>h (List.mem_cons_of_mem _ z)) (by simpa using hl)]
      rw [ajB ks vs e (by simpa using hl)]
 have app:∀ (ks:List Key) (vs:List Vl),ks.length=vs.length→k∉ks→cG (ks++[k]) (vs++[y]) j=if j=k then some y else cG ks vs j:=by
  intro ks
  induction ks with
  | nil=>
   intro vs hl _
   cases vs with
   | nil=>
    simp only [List.nil_append,cG]
    by_cases c:k=j
    ·rw [if_pos c,if_pos c.symm]
    ·rw [if_neg c,if_neg (Ne.symm c)]
   | cons _ _=>simp at hl
  | cons m ks ih=>
   intro vs hl hk
   cases vs with
   | nil=>simp at hl
   | cons v vs=>
    simp only [List.cons_append,cG]
    by_cases c:m=j
    ·subst c
     rw [if_pos rfl,if_pos rfl,if_neg fun z=>hk (by rw [← z];exact List.mem_cons_self)]
    ·rw [if_neg c,if_neg c]
     exact ih vs (by simpa using hl) fun z=>hk (List.mem_cons_of_mem _ z)
 intro ks vs hl
 unfold putD
 by_cases c:(ks.any fun j=>decide (j=k))=true
 ·rw [if_pos c]
  obtain ⟨m,hm,e⟩:=List.any_eq_true.mp c
  have e:=of_decide_eq_true e
  subst e
  exact rep ks vs hl hm
 ·rw [if_neg c]
  refine app ks vs hl fun z=>c (List.any_eq_true.mpr ⟨k,z,decide_eq_true rfl⟩)
theorem M7 {k:Key} {y:Vl} {ks:List Key} {vs:List Vl} (h:ks.length=vs.length):(putD ks vs k y).1.length=(putD ks vs k y).2.length∧(putD ks vs k y).1.length≤ks.length+1:=by
 have rl:∀ (ks:List Key) (vs:List Vl),ks.length=vs.length→(mG k y ks vs).length=vs.length:=by
  intro ks
  induction ks with
  | nil=>intro vs h;cases vs with
   | nil=>rfl
   | cons _ _=>simp at h
  | cons m ks ih=>intro vs h;cases vs with
   | nil=>simp at h
   | cons v vs=>simp only [mG,List.length_cons];rw [ih vs (by simpa using h)]
 unfold putD
 split
 ·exact ⟨by rw [rl ks vs h];exact h,Nat.le_succ _⟩
 ·simp [h]
theorem Qu {k:Key}:∀ {ks:List Key} {vs:List Vl},ks.length=vs.length→(ks.any fun j=>decide (j=k))=(cG ks vs k).isSome
 | [],[],_=>rfl
 | [],_::_,h=>by simp at h
 | _::_,[],h=>by simp at h
 | m::ks,v::vs,h=>by
  simp only [List.any_cons,cG]
  by_cases c:m=k
  ·rw [if_pos c,decide_eq_true c];simp
  ·rw [if_neg c,decide_eq_false c,Bool.false_or]
   exact Qu (by simpa using h)
theorem tZ {k:Key} {y:Vl} {ks:List Key} {vs:List Vl} (h:k∉ks):putD ks vs k y=(ks++[k],vs++[y]):=by
 unfold putD
 rw [if_neg]
 intro z
 obtain ⟨m,hm,e⟩:=List.any_eq_true.mp z
 exact h (of_decide_eq_true e ▸ hm)
theorem wY:∀ {ps:List (Key × Vl)} {ks:List Key} {vs:List Vl},(ks++ps.map (·.1)).Nodup→j6 ps ks vs=(ks++ps.map (·.1),vs++ps.map (·.2))
 | [],ks,vs,_=>by simp [j6]
 | p::ps,ks,vs,h=>by
  have hp:p.1∉ks:=fun z=>(List.nodup_append.mp h).2.2 p.1 z p.1 (by simp) rfl
  simp only [j6,tZ hp]
  rw [wY (by simpa using h)]
  simp
def Dm (ks:List Key) (vs:List Vl) (m:Int→Option Int):Prop:=ks.length=vs.length∧dH vs=true∧∀ t:Int,cG ks vs (Sum.inl t)=(m t).map Vl.int
theorem Dm.put {ks:List Key} {vs:List Vl} {m:Int→Option Int} (h:Dm ks vs m) (t y:Int):Dm (putD ks vs (Sum.inl t) (.int y)).1 (putD ks vs (Sum.inl t) (.int y)).2 fun u=>if u=t then some y else m u:=by
 refine ⟨(M7 h.1).1,?_,fun u=> ?_⟩
 ·unfold putD
  split
  ·have:∀ (ks:List Key) (vs:List Vl),dH vs=true→dH (mG (Sum.inl t) (.int y) ks vs)=true:=by
    intro ks
    induction ks with
    | nil=>intro vs _;simp [mG,dH]
    | cons k ks ih=>intro vs h;cases vs with
     | nil=>simp [mG,dH]
     | cons v vs=>
      simp only [dH,Bool.and_eq_true] at h
      simp only [mG,dH,Bool.and_eq_true]
      refine ⟨?_,ih vs h.2⟩
      split
      ·simp [Vl.nr]
      ·exact h.1
   exact this ks vs h.2.1
  ·exact nQ h.2.1 (by simp [dH,Vl.nr])
 ·rw [acn h.1]
  by_cases c:u=t
  ·subst c;rw [if_pos rfl];simp
  ·rw [if_neg (fun z=>c (Sum.inl.inj z))];simp only [if_neg c];exact h.2.2 u
theorem Dm.mem {ks:List Key} {vs:List Vl} {m:Int→Option Int} (h:Dm ks vs m) (t:Int):(ks.any fun j=>decide (j=Sum.inl t))=(m t).isSome:=by
 rw [Qu h.1,h.2.2 t,Option.isSome_map]
theorem Dm.nil:Dm [] [] fun _=>none:=⟨rfl,by simp only [dH],fun t=>rfl⟩
theorem Dm.congr {ks:List Key} {vs:List Vl} {m m':Int→Option Int} (h:Dm ks vs m) (e:∀ t,m t=m' t):Dm ks vs m':=⟨h.1,h.2.1,fun t=>by rw [h.2.2 t,e t]⟩
theorem ach {S:Hs} {v:Vl} {ks:List Key} {vs:List Vl} {t:Int} (h:aX S v=some (ks,vs)):lU S (.int t) v=some (ks.any fun j=>decide (j=Sum.inl t)):=by
 cases v with
 | str z=>simp [aX] at h
 | dct a b=>unfold lU;simp only [h];rfl
 | ref r=>unfold lU;simp only [h];rfl
 | _=>simp [aX] at h
theorem XM {S:Hs} {v:Vl} {ks:List Key} {vs:List Vl} {t:Str} (h:aX S v=some (ks,vs)):lU S (.str t) v=some (ks.any fun j=>decide (j=Sum.inr t)):=by
 cases v with
 | str z=>simp [aX] at h
 | dct a b=>unfold lU;simp only [h];rfl
 | ref r=>unfold lU;simp only [h];rfl
 | _=>simp [aX] at h
theorem Ux {S:Hs} {v:Vl} {ks:List Key} {vs:List Vl} {t:Int} (h:aX S v=some (ks,vs)):dM S v (.int t)=cG ks vs (Sum.inl t):=by
 cases v with
 | str z=>simp [aX] at h
 | dct a b=>unfold dM;simp only [h];rfl
 | ref r=>unfold dM;simp only [h];rfl
 | _=>simp [aX] at h
theorem adh {S:Hs} {v:Vl} {ks:List Key} {vs:List Vl} {t:Str} (h:aX S v=some (ks,vs)):dM S v (.str t)=cG ks vs (Sum.inr t):=by
 cases v with
 | str z=>simp [aX] at h
 | dct a b=>unfold dM;simp only [h];rfl
 | ref r=>unfold dM;simp only [h];rfl
 | _=>simp [aX] at h
theorem jF {S:Hs} {r:Nat} {ks:List Key} {vs:List Vl} {k y:Vl} {kk:Key} (h:S[r]? =some (.dct ks vs)) (hk:k.key=some kk) (hl:ks.length≤1000000):sU S (.ref r) k y=some (S.set r (.dct (putD ks vs kk y).1 (putD ks vs kk y).2)):=by
 unfold sU
 simp only [h,hk]
 rw [if_pos (Nat.lt_of_le_of_lt hl (by decide))]
theorem O9 {S:Hs} {r:Nat} {xs:List Vl} {i:Nat} {y:Vl} (h:S[r]? =some (.lst xs)) (hi:i<xs.length):sU S (.ref r) (.int i) y=some (S.set r (.lst (xs.set i y))):=by
 have e:ixN xs.length (i:Int)=some i:=by
  unfold ixN
  rw [if_pos (by omega),if_pos (by omega),Int.toNat_natCast]
 unfold sU
 simp only [h,e]
end Oz
namespace Oz
open PySem L2 PyProof.Rows
section
variable {G:bB} {ρ:List Addr} {H:Hp}
mutual
theorem VR.Eo (e:Option (Addr × Value × Option Addr)):∀ (x:Vl) (v:V),x.ef=true→VR G ρ H x v→VR { G with er:=e } ρ H x v
 | .non,_,_,h | .bl _,_,_,h | .int _,_,_,h | .str _,_,_,h | .ref _,_,_,h=>by simpa only [VR] using h
 | .tup xs,v,f,h=>by
  simp only [VR] at h ⊢
  simp only [Vl.ef] at f
  obtain ⟨a,vs,e1,h1,h2⟩:=h
  exact ⟨a,vs,e1,h1,au.Eo e xs vs f h2⟩
 | .lst xs,v,f,h=>by
  simp only [VR] at h ⊢
  simp only [Vl.ef] at f
  obtain ⟨a,vs,e1,h1,h2⟩:=h
  exact ⟨a,vs,e1,h1,au.Eo e xs vs f h2⟩
 | .dct ks xs,v,f,h=>by
  simp only [VR] at h ⊢
  simp only [Vl.ef] at f
  obtain ⟨a,vs,e1,h1,hn,hk,h2⟩:=h
  exact ⟨a,vs,e1,h1,hn,hk,au.Eo e xs _ f h2⟩
 | .obj c ns xs,v,f,h=>by
  simp only [VR] at h ⊢
  simp only [Vl.ef] at f
  obtain ⟨a,dx,vs,e1,h1,hn,hk,h2⟩:=h
  exact ⟨a,dx,vs,e1,h1,hn,hk,au.Eo e xs _ f h2⟩
 | .err _ _ _,_,f,_=>by simp [Vl.ef] at f
theorem au.Eo (e:Option (Addr × Value × Option Addr)):∀ (xs:List Vl) (vs:List V),Zg xs=true→au G ρ H xs vs→au { G with er:=e } ρ H xs vs
 | [],_,_,h=>by simpa only [au] using h
 | x::xs,vs,f,h=>by
  simp only [au] at h ⊢
  simp only [Zg,Bool.and_eq_true] at f
  obtain ⟨v,r,e1,h1,h2⟩:=h
  exact ⟨v,r,e1,VR.Eo e x v f.1 h1,au.Eo e xs r f.2 h2⟩
end
theorem OR.Eo (e:Option (Addr × Value × Option Addr)) {a:Addr} {o:Ob} (f:o.ef=true) (h:OR G ρ H a o):OR { G with er:=e } ρ H a o:=by
 cases o with
 | lst xs=>obtain ⟨vs,h1,h2⟩:=h;exact ⟨vs,h1,au.Eo e _ _ f h2⟩
 | dct ks xs=>obtain ⟨vs,h1,hk,h2⟩:=h;exact ⟨vs,h1,hk,au.Eo e _ _ f h2⟩
 | ins c ns xs=>obtain ⟨dx,vs,h1,hk,h2⟩:=h;exact ⟨dx,vs,h1,hk,au.Eo e _ _ f h2⟩
 | zU ks xs=>obtain ⟨vs,od,h1,hk,h2⟩:=h;exact ⟨vs,od,h1,hk,au.Eo e _ _ f h2⟩
theorem bf.Eo (e:Option (Addr × Value × Option Addr)) {S:Hs} (f:TF S=true) (s:bf G ρ H S):bf { G with er:=e } ρ H S:=
 ⟨s.len,s.nd,fun r o a h1 h2=>(s.at_ r o a h1 h2).Eo e (List.all_eq_true.mp f o (List.mem_of_getElem? h1))⟩
theorem ER.Eo (e:Option (Addr × Value × Option Addr)) {η:Sg} {σ:L2.St} (f:Y9 η=true) (r:ER G ρ H η σ):ER { G with er:=e } ρ H η σ:=
 ⟨r.len,fun i x h=>let ⟨v,h1,h2⟩:=r.at_ i x h;⟨v,h1,VR.Eo e x v (List.all_eq_true.mp f (some x) (List.mem_of_getElem? h)) h2⟩⟩
theorem bf.Om (e:Option (Addr × Value × Option Addr)) {S:Hs} (f:TF S=true) (s:bf { G with er:=e } ρ H S):bf G ρ H S:=bf.Eo (G:={ G with er:=e }) G.er f s
theorem ER.Om (e:Option (Addr × Value × Option Addr)) {η:Sg} {σ:L2.St} (f:Y9 η=true) (r:ER { G with er:=e } ρ H η σ):ER G ρ H η σ:=ER.Eo (G:={ G with er:=e }) G.er f r
theorem VR.Om (e:Option (Addr × Value × Option Addr)) {x:Vl} {v:V} (f:x.ef=true) (r:VR { G with er:=e } ρ H x v):VR G ρ H x v:=VR.Eo (G:={ G with er:=e }) G.er x v f r
theorem OR.Om (e:Option (Addr × Value × Option Addr)) {a:Addr} {o:Ob} (f:o.ef=true) (r:OR { G with er:=e } ρ H a o):OR G ρ H a o:=OR.Eo (G:={ G with er:=e }) G.er f r
end
section
variable {G:bB} {ρ:List Addr} {H:Hp}
mutual
theorem VR.efo (e:G.er=none):∀ (x:Vl) (v:V),VR G ρ H x v→x.ef=true
 | .non,_,_ | .bl _,_,_ | .int _,_,_ | .str _,_,_ | .ref _,_,_=>by simp only [Vl.ef]
 | .tup xs,v,h=>by simp only [VR] at h;obtain ⟨_,vs,_,_,h2⟩:=h;simp only [Vl.ef];exact au.efo e xs vs h2
 | .lst xs,v,h=>by simp only [VR] at h;obtain ⟨_,vs,_,_,h2⟩:=h;simp only [Vl.ef];exact au.efo e xs vs h2
 | .dct ks xs,v,h=>by simp only [VR] at h;obtain ⟨_,vs,_,_,_,_,h2⟩:=h;simp only [Vl.ef];exact au.efo e xs _ h2
 | .obj c ns xs,v,h=>by simp only [VR] at h;obtain ⟨_,_,vs,_,_,_,_,h2⟩:=h;simp only [Vl.ef];exact au.efo e xs _ h2
 | .err c ns xs,v,h=>by
  simp only [VR] at h
  obtain ⟨_,_,_,h1,_⟩:=h
  rw [e] at h1;cases h1
theorem au.efo (e:G.er=none):∀ (xs:List Vl) (vs:List V),au G ρ H xs vs→Zg xs=true
 | [],_,_=>by simp only [Zg]
 | x::xs,vs,h=>by
  simp only [au] at h
  obtain ⟨v,r,_,h1,h2⟩:=h
  simp only [Zg,VR.efo e x v h1,au.efo e xs r h2,Bool.and_self]
end
end
def aha (K:PySem.W.Frag) (C:Addr) (f:Str):Sp:=fun vs H Q _=>∃ a v,vs=[.ref a,v]∧H a=some (exo a C none)∧∀ d,H d=none→d≠a→Q .non (upd (upd H d (exd d [(f,v)])) a (exo a C (some d)))
structure Rse (P:Program) (w:World) (K:PySem.W.Frag) (mg:Str→Option Value) (base:Heap) (C:Addr) (x f:Str):Prop where
 ex:∃ (fI:Addr) (fd:FuncData) (ps:List Str),FnOk P w K mg base (L2.CX P w) 1 fI fd ps (aha K C f)∧OexC K C∧PySem.W.findIn K (.ref C) "__init__"=some (some (.ref fI))∧PySem.W.typeIn K (.ref fI)=some (.type "function")∧Binds K fd ps []∧mg x=some (.ref C)
section
variable {G:bB} {M:aF} {W:WX} {X:Cx} {k:Nat} {c f:Str} {a:Expr} {ca:E} {p pos jA:Pos}
end
class Own (X:Cx):Prop where
 stk:X.stack=X.env::X.outer
 frm:X.env.frame=some X.env.locals
instance {G:bB} {X:Cx} {pn:List (Addr × Obj)} {xe:Value→Shared→Prop} [c:bT G X]:bT G (X.tr pn xe):=⟨c.calm,c.hd,c.er⟩
instance {G:bB} {X:Cx} {s:Shared} {H:Hp} {scope:Scope} {ce:Env} {fp:List Addr} [c:bT G X]:bT G (X.blk s H scope ce fp):=⟨c.calm,c.hd,c.er⟩
instance {CX:CXT} {P:Program} {w:World} {K:PySem.W.Frag} {mg:Str→Option Value} {base:Heap} {N:List Str} {bA:Str} {scope:Scope} {f:Addr} {cd:Value} {A:Around} {outer:List Env} {s:Shared} {H:Hp} {E:XK}:Own (cxOf CX P w K mg base N bA scope f cd A outer s H E):=⟨rfl,rfl⟩
instance {X:Cx} {pn:List (Addr × Obj)} {xe:Value→Shared→Prop} [o:Own X]:Own (X.tr pn xe):=⟨o.stk,o.frm⟩
theorem Good.tr {G:bB} {k:Nat} {X:Cx} [bT G X] (g:Good G k X) (pn:List (Addr × Obj)) (xe:Value→Shared→Prop):Good G k (X.tr pn xe):=⟨g.K,g.nd,g.room,g.Mf,fun e h=>by rw [bT.er X] at h;cases h⟩
section
variable {G:bB} {M:aF} {W:WX} {X:Cx} {k i:Nat} {x c n:Str} {cb ch:Cs} {body suite:List Stmt} {b₀:Stmt} {np pos xJ:Pos} {cv:Value}
theorem adu [bT G X] [ow:Own X] (g:Good G k X) (hi:X.N[i]? =some n) (hln:X.env.kindOf n=some .local) (hc:Names X x cv) (tk:Takes X W)
  (hb:∀ (W':WX) (pn:List (Addr × Obj)) (xe:Value→Shared→Prop),Good G k (X.tr pn xe)→PassesOwn (model X.prog X.w) X.A X.env xe→Takes (X.tr pn xe) W'→PSs (X.tr pn xe) body (vL G M W' cb))
  (hsu:∀ (e:Addr × Value × Option Addr) (pn:List (Addr × Obj)),Good { G with er:=some e } k (X.suite e.1 pn)→PSs (X.suite e.1 pn) (b₀::suite) (vL { G with er:=some e } M WF ch))
  (ak0:∀ (d:Str) (b:Bool),M.sub d c=some b→PySem.W.exmOne X.K (.ref (G.xl d)) cv=some b) :
  PS X (.Try body [.ExceptHandler (some (.Name x np)) (some n) (b₀::suite) xJ] [] [] pos) (tC G M W (.try_ cb c i ch)):=by
 refine (ps_try_as (i:=i) (tb:=fun W'=>vL G M W' cb) (ts:=fun a cls d=>vL { G with er:=some (a,cls,d) } M WF ch) ow.stk ow.frm g.nd hi hln hc tk (fun W' pn xe tk' po=>hb W' pn xe (g.tr pn xe) po tk') (fun a oe cls d pn hz hf=>hsu (a,cls,d) ((a,oe)::pn) ⟨g.K,g.nd,⟨g.room.dp,g.room.un⟩,g.Mf,fun e he=>by
  obtain ⟨vs,hv⟩:=hf
  cases he
  exact ⟨oe,vs,List.mem_cons_self,hz,hv⟩⟩)).imp fun D σ H ⟨ρ,η,S,s,r,h⟩=>⟨ρ,η,S,s,r,?_⟩
 simp only [aP] at h
 cases eo:exec M cb η S with
 | nx η1 S1=>rw [eo] at h;exact h
 | brk η1 S1=>rw [eo] at h;exact h
 | cnt η1 S1=>rw [eo] at h;exact h
 | ret r1 S1=>rw [eo] at h;exact h
 | bad=>rw [eo] at h;exact h
 | exc z η1 S1=>
  rw [eo] at h
  simp only at h
  intro ρ' H' σ' st s' r'
  cases hm:M.sub z.c c with
  | none=>rw [hm] at h;exact h.elim
  | some b=>
   have Ir:=ak0 _ _ hm
   rw [hm] at h
   cases b with
   | false=>
    have q:XW G W σ' ρ' H' z:=h ρ' H' σ' st s' r'
    unfold XW at q ⊢
    split at q
    ·rename_i e
     exact ⟨false,Ir,(fun z=>nomatch z),fun _=>q⟩
    ·rename_i ns vs e
     exact fun d fs h1 h2 h3 h4=>⟨false,Ir,(fun z=>nomatch z),fun _=>q d fs h1 h2 h3 h4⟩
   | true=>
    simp only at h
    split at h
    ·rename_i hef
     have key:∀ (a:Addr) (d:Option Addr),VR { G with er:=some (a,.ref (G.xl z.c),d) } ρ' H' z.vl (.ref a)→vL { G with er:=some (a,.ref (G.xl z.c),d) } M WF ch { nx:=fun σ' H'=>D.nx (σ'.set i none) H',rt:=D.rt,bk:=fun σ' H'=>D.bk (σ'.set i none) H',ct:=fun σ' H'=>D.ct (σ'.set i none) H' } (σ'.set i (some (.ref a))) H':=fun a d hv=>by
      refine ⟨ρ',η1.set i (some z.vl),S1,s'.Eo _ hef.2,(r'.Eo _ hef.1).set i hv,?_⟩
      cases es:exec M ch (η1.set i (some z.vl)) S1 with
      | nx η2 S2=>
       rw [es] at h
       simp only at h
       split at h
       ·rename_i O7
        exact fun ρ2 H2 σ2 st2 s2 r2=>h ρ2 H2 _ (st.trans st2) (s2.Om _ O7.2) (ER.Om _ O7.1 (r2.ajL i (w:=none)))
       ·exact h.elim
      | ret r2 S2=>
       rw [es] at h
       simp only at h
       split at h
       ·rename_i O7
        intro ρ2 H2 st2 s2
        have q:=h ρ2 H2 (st.trans st2) (s2.Om _ O7.2)
        cases r2 with
        | val y=>exact fun v hv=>q v (VR.Om _ O7.1 hv)
        | frs o=>
         refine fun p hp hn ho hs=>q p (none_of s s' st hp) hn (OR.Om _ O7.1 ho) (bf.Om _ ?_ hs)
         have e1:=O7.2
         have e2:o.ef=true:=O7.1
         unfold TF at e1 ⊢
         rw [List.all_append,e1]
         simp [e2]
       ·exact h.elim
      | brk η2 S2=>rw [es] at h;exact h.elim
      | cnt η2 S2=>rw [es] at h;exact h.elim
      | exc z2 η2 S2=>rw [es] at h;exact h.elim
      | bad=>rw [es] at h;exact h.elim
     unfold XW
     split
     ·rename_i e
      refine ⟨true,Ir,fun _ a _=>key a none ?_,(fun z=>nomatch z)⟩
      unfold Xc.vl
      simp only [e,VR]
      exact ⟨a,none,rfl,rfl,.inl ⟨rfl,trivial⟩⟩
     ·rename_i ns vs e
      refine fun d fs h1 h2 h3 h4=>⟨true,Ir,fun _ a _=>key a (some d) ?_,(fun z=>nomatch z)⟩
      unfold Xc.vl
      simp only [e,VR]
      exact ⟨a,some d,rfl,rfl,.inr ⟨d,fs,rfl,h1,h2,h3,au.Eo _ _ _ (au.efo (bT.er X) _ _ h4) h4⟩⟩
    ·exact h.elim
end
end Oz
namespace Oz
open PySem L2 PyProof.Rows
section
variable {G:bB} {M:aF} {W:WX} {X:Cx} {k:Nat} {c f:Str} {a b e:Expr} {ca cb:E} {p pos cH:Pos}
theorem ag1 (g:Good G k X) {pins:List (Addr × Obj)} {σ:L2.St} {H:Hp} {s:Shared} {ρ:List Addr} {c:Str} {ns:List Str} {xs:List Vl} {v:V} (I:Inv X pins σ H s) (h:VR G ρ H (.err c ns xs) v) :
  ∃ (q:Addr) (oe:Obj) (od:Option Obj),v=.ref q∧PySem.W.InstAt s.heap q oe (G.xl c) od∧(∀ m,(∃ fs dd,H dd=some (.xd fs)∧fs.map (·.1)=ns∧au G ρ H xs (fs.map (·.2))∧∃ o,od=some o∧∃ mA:Str→Option Value,PySem.W.lookIn m o=some (mA m)∧RelO (fs.lookup m) (mA m))∨xs=[]):=by
 simp only [VR] at h
 obtain ⟨q,d,rfl,he,hd⟩:=h
 obtain ⟨oe,vs,hm,hz,hv⟩:=g.er _ he
 have hp:=(I.pin (q,oe) (List.mem_append_left _ hm)).1
 have nc:PySem.W.notCls oe=true:=by unfold PySem.W.notCls;rw [hv]<;>rfl
 rcases hd with ⟨rfl,rfl⟩ | ⟨dd,fs,rfl,ea,hn,hk,hx⟩
 ·exact ⟨q,oe,none,rfl,⟨hp,hz.1,nc,by rw [hz.2];trivial⟩,fun _=>.inr rfl⟩
 ·obtain ⟨mA,hns,hr⟩:ObjOk X.prog X.w H s.heap dd (.xd fs):=I.hok dd _ ea
  obtain ⟨od,ho,hl⟩:=lookIn_ns hns
  exact ⟨q,oe,some od,rfl,⟨hp,hz.1,nc,by rw [hz.2];exact ho⟩,fun m=>.inl ⟨fs,dd,ea,hk,hx,od,rfl,mA,hl _,hr m⟩⟩
def al9 (G:bB) (M:aF) (c:Str):List V→Hp→VK→Prop:=fun xs H Q=>∃ (ρ:List Addr) (d:Str) (ns:List Str) (ys:List Vl) (v u:V) (z:Bool),xs=[v,u]∧VR G ρ H (.err d ns ys) v∧M.sub d c=some z∧Q (.bl z) H
theorem aht (g:Good G k X) {cv:Value} (hX:∀ d z,M.sub d c=some z→ExcC X.K (G.xl d)∧PySem.W.kitOne X.K (.ref (G.xl d)) cv=some z) (u:V) (hv:∀ w,RelV u w→w=cv):CallR X (.builtin "isinstance") (fun xs H Q=>xs[1]? =some u∧al9 G M c xs H Q):=by
 intro pins s σ H xs us Q I r h
 obtain ⟨h1,ρ,d,ns,ys,v,u',z,rfl,hvr,hs,q⟩:=h
 cases h1
 obtain ⟨C,hk⟩:=hX d z hs
 cases r with
 | cons rx rr=>
  cases rr with
  | cons rt rr=>
   cases rr
   have ec:=hv _ rt
   subst ec
   obtain ⟨q0,oe,od,rfl,J,_⟩:=ag1 g I hvr
   cases rx
   obtain ⟨cd,Ab,_⟩:=PySem.W.any_some C.hd
   exact PySem.W.kia_one (PySem.W.kitx_exc (by rw [Ab];rfl) C.hg C.hk C.hs C.ha C.hn C.ht C.hm) I.kIn J hk (fun z=>nomatch z) fun tk=>⟨.bl z,H,I.tok _,rfl,q⟩
theorem cJ (g:Good G k X) {cv:Value} {u:V} (hX:∀ d z,M.sub d c=some z→ExcC X.K (G.xl d)∧PySem.W.kitOne X.K (.ref (G.xl d)) cv=some z) (hv:∀ w,RelV u w→w=cv) (hg:Gl X "isinstance") (hm:X.mg "isinstance"=none) (ha:PE X a (tE G M W ca)) (hb:PE X b (L2.tC u))
  (hs:starEach [a,b] X.env=(false,eval a X.env)::starEach [b] X.env:=by rfl) (CJ:starEach [b] X.env=(false,eval b X.env)::starEach [] X.env:=by rfl) (jt:(backTo pos (starEach [b] X.env)).any (·.1)=false:=by rfl) :
  PE X (.Call (.Name "isinstance" p) [a,b] [] pos) (tE G M W (.xP c ca)):=(pe_callB (aht (M:=M) (c:=c) g hX u hv) hg hm (by decide+kernel) (pa_cons ha (pa_cons hb pa_nil CJ) hs) (by decide) (by decide) hs jt).imp fun σ H Q ⟨ρ,η,S,s,r,h⟩=>⟨ρ,η,S,s,r,by
 simp only [ev] at h
 refine (PR.bind h).mono fun ρ1 H1 x S1 bU s1 h1 v hvx=> ?_
 cases x with
 | err d ns ys=>
  obtain ⟨z,hz,h2⟩:=h1.ig
  obtain ⟨y,hy,rfl⟩:=Option.map_eq_some_iff.mp hz
  exact ⟨rfl,ρ1,d,ns,ys,v,u,y,rfl,hvx,hy,h2.here s1 _ (by simp only [VR])⟩
 | _=>exact h1.elim⟩
def ae8 (K:PySem.W.Frag):V→List V→Hp→VK→Prop:=fun x xs H Q=>∃ (y:V) (d:PyData) (ds:List PyData),xs=[y]∧Dp K H x (.list ds)∧Dp K H y d∧SeqAt.shaped (.list ds)=true∧SeqAt.shaped d=true∧Q (.int (ds.countP fun z=>PyData.eqv z d:Nat)) H
theorem adK (hu:X.A.units+65<cLine):MtR X "list.count" (ae8 X.K):=by
 intro pins s σ H x xs v us Q I rx rxs h
 obtain ⟨y,d,ds,hxs,hl,hy,sl,sd,q⟩:=h
 subst hxs
 obtain ⟨uy,rfl,ry⟩:=rxs.one
 obtain ⟨bs,r1⟩:=Dp.reads I d y uy hy ry
 have lay:PyData.canLayAll0 ds=true:=SeqAt.canLay_of_shaped sl
 have hroom:X.A.units+1+min (PyData.depthAll ds) d.depth<cLine:=by
  have:=SeqAt.depth_of_shaped sd
  have:=Nat.min_le_right (PyData.depthAll ds) d.depth
  omega
 cases hl with
 | lst hs ha=>
  cases rx
  obtain ⟨its,rv,⟨⟨cl,dd,dt,sls⟩,n,ho,hc,hdn,hdt⟩,nU⟩:=I.list hs
  dsimp only at hc hdt
  cases hc;cases hdt
  obtain ⟨as,h4⟩:=Dp.readsAll I ds _ its ha rv
  have ala:=SeqAt.readsAll_map ds its as lay h4
  refine call_meets PySem.F.slot_list_count ⟨_,ho,rfl⟩ PySem.F.entry_list_count (PySem.F.args_list_count_2 _ _) (SeqAt.list_countAt _ its.toArray n dd sls uy (fun u=>PyData.eqv (SeqAt.readOf s.heap u) d)) ⟨ho,SeqAt.items_eqAt (vs:=its.toArray) h4 r1 lay (SeqAt.canLay_of_shaped sd) hroom,?_⟩
  have akI:its.toArray.toList.countP (fun u=>PyData.eqv (SeqAt.readOf s.heap u) d)=ds.countP fun z=>PyData.eqv z d:=by
   rw [← ala,List.countP_map]
   rfl
  rw [akI]
  exact ⟨.int _,H,I.tok _,⟨_,rfl⟩,q⟩
theorem af6 {K:PySem.W.Frag} (hK:G.K=K) {ρ:List Addr} {H:Hp} {S:Hs} {x:Vl} {v:V} (s:bf G ρ H S) (hv:VR G ρ H x v) (h:(bV S x).isSome=true):tyV K "list" v H:=by
 subst hK
 obtain ⟨xs,e⟩:=Option.isSome_iff_exists.mp h
 obtain ⟨a,vs,rfl,hs,_⟩:=lQ s hv e
 exact .inl ⟨rfl,vs,.inl hs⟩
theorem tLs (hK:X.K=G.K) (r:V→List V→Hp→VK→Prop) (op:Hs→Vl→Vl→Option Vl) (cc:E) (hc:∀ η S,ev M cc η S=(ev M ca η S).bind fun x S1=>if (bV S1 x).isSome=true then (ev M cb η S1).bind fun y S2=>ig S2 (op S2 x y) else .bad)
  (ho:∀ (ρ:List Addr) (H:Hp) (S:Hs) (x y z:Vl) (v w:V) (Q:VK),bf G ρ H S→VR G ρ H x v→VR G ρ H y w→op S x y=some z→(∀ u,VR G ρ H z u→Q u H)→r v [w] H Q) (σ:L2.St) (H:Hp) (Q:VK) (h:tE G M W cc σ H Q):tBM X.K "list" r (tE G M W ca) (tA G M W (.cons cb .nil)) σ H Q:=by
 obtain ⟨ρ,η,S,s,r',h⟩:=h
 rw [hc] at h
 refine ⟨ρ,η,S,s,r',(PR.bind h).mono fun ρ1 H1 x S1 bU s1 h1 v hv=> ?_⟩
 split at h1
 ·rename_i hl
  refine ⟨af6 hK.symm s1 hv hl,ρ1,η,S1,s1,r'.step bU,?_⟩
  simp only [evs]
  cases eb:ev M cb η S1 with
  | bad=>rw [eb] at h1;exact h1.elim
  | exc x2 S2=>rw [eb] at h1;exact h1
  | ok y S2=>
   rw [eb] at h1
   simp only [Res.bind] at h1 ⊢
   intro ρ2 H2 st2 s2 as ha
   obtain ⟨z,hz,h2⟩:=(PR.step h1 st2).ig
   simp only [au] at ha
   obtain ⟨w,r2,rfl,hw,rfl⟩:=ha
   exact ho ρ2 H2 S2 x y z v w Q s2 (hv.step st2) hw hz fun u hu=>h2.here s2 u hu
 ·exact h1.elim
theorem Zq (g:Good G k X) (ha:PE X a (tE G M W ca)) (hb:PE X e (tE G M W cb)) (Uo:starEach [e] X.env=(false,eval e X.env)::starEach [] X.env:=by rfl) (fU:attributeBase a "count" X.env (eval a X.env)=eval a X.env:=by rfl)
  (SN:((backTo pos (starEach (e::[]) X.env)).all (fun x=> !x.1)&&(backToKw pos (keywordEach [] X.env)).all (fun x=>x.1.isSome)
   &&decide ((e::([]:List Expr)).length+([]:List Keyword).length+(if ([]:List Keyword).isEmpty then 0 else 1)<30))=true:=by rfl)
  (fO:(cH.endLine==pos.line)=true:=by rfl) (qO:(backTo pos (starEach [] X.env)).any (·.1)=false:=by rfl) :
  PE X (.Call (.Attribute a "count" cH) [e] [] pos) (tE G M W (.aaL ca cb)):=
 (pe_bm F.plainAttrs_list F.slot_list_count F.type_list_count (adK (by have:=g.u64;have:=g.room.un;omega)) ha (t7 hb gJ Uo) fU SN fO Uo qO).imp (tLs g.K (ae8 X.K) Qc (.aaL ca cb) (fun η S=>by simp only [ev]) fun ρ H S x y z v w Q s hv hw e q=>by
  unfold Qc at e
  split at e
  ·rename_i ds d e1 e2
   split at e
   ·rename_i hs
    cases e
    exact ⟨w,d,ds,rfl,by rw [g.K];exact tX s hv e1,by rw [g.K];exact tX s hw e2,hs.1,hs.2,q _ (by simp only [VR])⟩
   ·cases e
  ·cases e)
theorem aal (g:Good G k X) (ha:PE X a (tE G M W ca)) (hb:PE X e (tE G M W cb)) (Uo:starEach [e] X.env=(false,eval e X.env)::starEach [] X.env:=by rfl) (fU:attributeBase a "index" X.env (eval a X.env)=eval a X.env:=by rfl)
  (SN:((backTo pos (starEach (e::[]) X.env)).all (fun x=> !x.1)&&(backToKw pos (keywordEach [] X.env)).all (fun x=>x.1.isSome)
   &&decide ((e::([]:List Expr)).length+([]:List Keyword).length+(if ([]:List Keyword).isEmpty then 0 else 1)<30))=true:=by rfl)
  (fO:(cH.endLine==pos.line)=true:=by rfl) (qO:(backTo pos (starEach [] X.env)).any (·.1)=false:=by rfl) :
  PE X (.Call (.Attribute a "index" cH) [e] [] pos) (tE G M W (.ab2 ca cb)):=
 (pe_bm F.plainAttrs_list F.slot_list_index F.type_list_index (mt_indexD (by have:=g.room.un;omega)) ha (t7 hb gJ Uo) fU SN fO Uo qO).imp (tLs g.K (rIndexD X.K) yK (.ab2 ca cb) (fun η S=>by simp only [ev]) fun ρ H S x y z v w Q s hv hw e q=>by
  unfold yK at e
  split at e
  ·rename_i ds d e1 e2
   split at e
   ·rename_i hs
    obtain ⟨j,hj,rfl⟩:=Option.map_eq_some_iff.mp e
    obtain ⟨Ze,hp,hno⟩:=List.findIdx?_eq_some_iff_getElem.mp hj
    have hd:=tX s hv e1
    rw [← g.K] at hd
    have ht:∃ p,v=.ref p:=by cases hd;exact ⟨_,rfl⟩
    obtain ⟨p,rfl⟩:=ht
    refine ⟨p,w,d,ds,j,ds[j],rfl,rfl,hd,by rw [g.K];exact tX s hw e2,hs.1,hs.2,List.getElem?_eq_getElem Ze,hp,fun m z' hm hz=> ?_,q _ (by simp only [VR])⟩
    obtain ⟨hml,rfl⟩:=List.getElem?_eq_some_iff.mp hz
    simpa using hno m hm
   ·cases e
  ·cases e)
theorem Vy {ρ:List Addr} {H:Hp}:∀ zs:List Str,au G ρ H (zs.map .str) (zs.map V.str)
 | []=>au.nil
 | z::zs=>au.cons (by simp only [VR]) (Vy zs)
theorem uV (ha:PE X a (tE G M W ca)) (hb:PE X e (tE G M W cb)) (hs:starEach [e] X.env=[(false,eval e X.env)]:=by rfl) (fU:attributeBase a "split" X.env (eval a X.env)=eval a X.env:=by rfl) (fO:(cH.endLine==pos.line)=true:=by rfl) :
  PE X (.Call (.Attribute a "split" cH) [e] [] pos) (tF G M W (.split ca cb)):=(pe_split ha hb hs fU fO).imp fun σ H Q ⟨ρ,η,S,s,r,h⟩=>⟨ρ,η,S,s,r,by
 simp only [d9] at h
 refine (PR.bind h).mono fun ρ1 H1 x S1 bU s1 h1 v hv=> ?_
 cases x with
 | str z=>
  simp only [VR] at hv
  subst hv
  refine ⟨⟨z,rfl⟩,ρ1,η,S1,s1,r.step bU,(PR.bind h1).mono fun ρ2 H2 y S2 st2 s2 h2 w hw=> ?_⟩
  cases y with
  | str w'=>
   simp only [VR] at hw
   subst hw
   simp only at h2
   split at h2
   ·rename_i hc
    exact ⟨z,w',rfl,rfl,by simp [hc.1],hc.2,fun p hp=>jC s (bU.trans st2) s2 h2 hp fun ρ' gG=>⟨_,upd_same,Vy _⟩⟩
   ·exact h2.elim
  | _=>exact h2.elim
 | _=>exact h1.elim⟩
end
structure FnX (P:Program) (w:World) (K:PySem.W.Frag) (mg:Str→Option Value) (base:Heap) (G:bB) (M:aF) (k:Nat) (f:Addr) (fd:FuncData) (ps:List Str) (n:Nat) (q:Str):Prop where
 len:ps.length=n
 run:∀ (e:Addr × Value × Option Addr) (oe:Obj) (A:Around) (outer:List Env) (s:Shared) (H:Hp) (args:Args) (us:List Value) (vs:List V) (Q:VK) (E:XK),L2H.RoomH k A→A.guards=some []→L2H.PinOk outer H s (e.1,oe)→Zc e.2.1 e.2.2 oe→(∃ vs,oe.data=.fields vs)→
  Env0 P w K mg base A outer s H→BindsTo s fd args (ps.zip us)→Vals vs us→spI { G with er:=some e } M n q vs H Q E→codeAny (model P w) A (.call (.ref f) args) (CR (L2.CX P w) outer P w H s Q E) s
structure ais (P:Program) (w:World) (K:PySem.W.Frag) (mg:Str→Option Value) (base:Heap) (G:bB) (M:aF) (k:Nat) (x q:Str) (n:Nat):Prop where
 ex:∃ (f:Addr) (fd:FuncData) (ps:List Str),FnX P w K mg base G M k f fd ps n q∧mg x=some (.ref f)∧PySem.W.keepIn K (.ref f)=true∧Binds K fd ps []
section
variable {G:bB} {M:aF} {W:WX} {X:Cx} {k n:Nat} {x q:Str} {e:Expr} {es:List Expr} {cU:Es} {p pos:Pos} {e0:Addr × Value × Option Addr}
theorem afD {G':bB} (g:Good G' k X) (he:G'.er=some e0) {pins:List (Addr × Obj)} {σ:L2.St} {H:Hp} {s:Shared} (I:Inv X pins σ H s):∃ oe,L2H.PinOk X.stack H s (e0.1,oe)∧Zc e0.2.1 e0.2.2 oe∧∃ vs,oe.data=.fields vs:=by
 obtain ⟨oe,vs,hm,hz,hv⟩:=g.er e0 he
 obtain ⟨i1,i2,i3,i4,i5⟩:=I.pin (e0.1,oe) (List.mem_append_left _ hm)
 refine ⟨oe,⟨i1,i2,fun hf=> ?_,i5⟩,hz,vs,hv⟩
 rcases List.mem_cons.mp (I.stkSub _ hf) with z | z
 ·exact i3 z
 ·exact i4 z
theorem cvX (g:Good { G with er:=some e0 } (k+1) X) (c:ais X.prog X.w X.K X.mg X.base G M k x q n) (tk:Takes X W) (ha:PA X (e::es) (tA { G with er:=some e0 } M W cU)) (hn:cU.len=n:=by rfl) (hg:Gl X x:=by rfl) (sX:(x==("__debug__":Str))=false:=by decide)
  (he:starEach (e::es) X.env=(false,eval e X.env)::starEach es X.env:=by rfl) (jt:(backTo pos (starEach es X.env)).any (·.1)=false:=by rfl):PE X (.Call (.Name x p) (e::es) [] pos) (tE { G with er:=some e0 } M W (.call q cU)):=by
 obtain ⟨f,fd,ps,F,hm,hk,hb⟩:=c.ex
 have key:PE X (.Call (.Name x p) (e::es) [] pos) (tCl X k n { G with er:=some e0 } M q W cU []):=by
  refine ⟨fun pins s σ H Q I ⟨ρ,η,S,s0,r,h⟩=> ?_⟩
  refine wpAny_Call_Name_kw (ld_glob I hg hm ?_ sX)
  refine PySem.W.callWith_K (h₀:=X.base) I.ok.mod.kin hk (thn (ha.run pos pins s σ H (fun vs H1=>∃ xs ρ1 S1,Step ρ H ρ1 H1∧bf { G with er:=some e0 } ρ1 H1 S1∧au { G with er:=some e0 } ρ1 H1 xs vs∧xs.length+([]:List Vl).length=n∧PR { G with er:=some e0 } W σ ρ1 H1 (M.cal q (xs++[]) S1) (okR { G with er:=some e0 } H1 Q)) I ⟨ρ,η,S,s0,r,h.mono fun ρ1 H1 xs S1 bU s1 hl vs hv=>⟨xs,ρ1,S1,bU,s1,hv,hl⟩⟩) fun us s1 ⟨vs,H1,I1,rv,xs,ρ1,S1,bU,sm1,hv,hl,hp⟩=>⟨I1.kIn,?_⟩) he jt
  obtain ⟨oe,hpin,hz,hv0⟩:=afD g rfl I1
  have len:us.length=ps.length:=by rw [F.len,← hl,hv.length,rv.length];rfl
  have b:=hb s1 us I1.kIn (by rw [List.append_nil];exact len)
  rw [List.append_nil] at b
  rw [List.append_nil] at hp
  refine wpAny_call (codeAny_mono (F.run e0 oe X.A X.stack s1 H1 ⟨us,[]⟩ us vs Q _ (g.room.mono (Nat.le_succ _)) g.Mf hpin hz hv0 I1.env0 b rv ⟨by rw [← hl,hv.length];rfl,ρ1,S1,xs,sm1,hv,PR.vJ hp⟩) ?_)
  intro r' s' hq
  match r',hq with
  | .error e,hq=>exact raised tk I1 hq
  | .ok (.ret u),hq=>exact I1.after hq
  | .ok .next,hq=>exact hq.elim
  | .ok .brk,hq=>exact hq.elim
  | .ok .cont,hq=>exact hq.elim
 refine key.imp fun σ H Q h=>CN (fun η S xs S1 h=> ?_) (by rw [Es.oN];exact h)
 rw [mO _ _ _ _ _ h,hn];rfl
end
section
variable {G:bB} {P:Program} {w:World} {mg:Str→Option Value} {base:Heap}
theorem ajX {k:Nat} {f:Addr} {x bA q:Str} {params:Arguments} {body:List Stmt} {scope:Scope} {dvs:List V} {kws:List (Str × V)} {fd:FuncData} {N ps:List Str} {M M':aF} {d:jU} (F:FunD G.K x bA params body scope dvs kws f fd) (Sc:FnScope N ps scope)
  (hM:∀ xs S,M.cal q xs S=gK M' d xs S) (Rp:d.np=ps.length) (NK:d.nn=N.length)
  (pO:∀ (e:Addr × Value × Option Addr) (cI:Value) (A:Around) (outer:List Env) (s:Shared) (H:Hp) (E:XK) (p:Addr × Obj),Good { G with er:=some e } k (L2H.cxH (L2.CX P w) P w G.K mg base N bA scope f cI A outer s H E p)→
   Takes (L2H.cxH (L2.CX P w) P w G.K mg base N bA scope f cI A outer s H E p) (fun cls d _ H'=>E cls d H')→PSs (L2H.cxH (L2.CX P w) P w G.K mg base N bA scope f cI A outer s H E p) body (vL { G with er:=some e } M' (fun cls d _ H'=>E cls d H') d.body)) :
  FnX P w G.K mg base G M (k+1) f fd ps d.np q:=by
 obtain ⟨oc,od,dV,kV,wW,pm,an,cI,ct,XX,rfl,lk,Ab,_,_⟩:=F.ex
 refine ⟨Rp.symm,fun e oe A outer s H args us vs Q E hr hgd hpin hz hv0 e0 hb r Cp=> ?_⟩
 obtain ⟨BK,ρ,S,xs,sim,hxs,hp⟩:=Cp
 rw [hM] at hp
 have pl:vs.length=ps.length:=BK.trans Rp
 have tR:G.K.In s.heap:=e0.mod.kin.keeps fun b o e=>(e0.bs b o e).1
 have DG:s.heap.NoLimit:=e0.mod.nolimit.keeps fun b o e=>(e0.bs b o e).1
 refine codeAny_call_function hr.depth (tR _ _ lk) rfl Sc.co Sc.gen rfl (PySem.W.codeRec_of tR Ab) (hb _ _ _ _ (wpAny_newFunctionEnv_cells Sc.kind (fun ⟨n,v⟩ hy=>(Sc.par n (List.of_mem_zip hy).1).imp id fun z=>⟨z,PySem.W.cellsFrom_some _ _ _ (.inl z)⟩) fun env he s1 x=> ?_))
 subst he
 refine ⟨DG.keeps x.toInCall.keep,codeAny_func ?_⟩
 have wF:=L2H.inv_startH (CX:=L2.CX P w) (E:=E) Sc hpin e0 pl r x
 have gd:Good { G with er:=some e } k (L2H.cxH (L2.CX P w) P w G.K mg base N bA scope f cI A outer s H E (e.1,oe)):=⟨rfl,Sc.nd,hr.deeper _,hgd,fun e' he'=>by
  obtain ⟨vs',hv'⟩:=hv0
  cases he'
  exact ⟨oe,vs',List.mem_singleton.mpr rfl,hz,hv'⟩⟩
 have RL:=(pO e cI A outer s H E (e.1,oe) gd (L2.takes_of rfl rfl rfl rfl)).run [] s1 (L2.start N vs) H { nx:=fun _ H'=>Q .non H',rt:=Q } wF ⟨ρ,_,S,sim,G6 NK hxs,R4 sim (hxs.length.trans BK) hp⟩
 refine wpAny_mono RL (fun fl s' hs=> ?_) fun _ _ z=>z
 cases fl with
 | ret u=>obtain ⟨v,σ',H',J,rv,z⟩:=hs;exact ⟨v,H',J.os,J.bare,J.base,J.hok,rv,z⟩
 | next=>obtain ⟨σ',H',J,z⟩:=hs;exact ⟨.non,H',J.os,J.bare,J.base,J.hok,rfl,z⟩
 | brk=>obtain ⟨_,_,_,z⟩:=hs;exact z.elim
 | cont=>obtain ⟨_,_,_,z⟩:=hs;exact z.elim
theorem ahJ {K:PySem.W.Frag} {k n:Nat} {f:Addr} {fd:FuncData} {ps:List Str} {M:aF} {q:Str} (hn:n=ps.length) (hM:∀ xs S,M.cal q xs S=.bad):FnX P w K mg base G M k f fd ps n q:=
 ⟨hn.symm,fun e oe A outer s H args us vs Q E _ _ _ _ _ _ _ _ ⟨_,ρ,S,xs,_,_,hp⟩=>by rw [hM] at hp;exact hp.elim⟩
end
end Oz
namespace Oz
open PySem L2
section
variable {M:aF} {η η1 η2:Sg} {S S1 S2 S3:Hs} {a b e:E} {x y z:Vl} {es:Es} {xs:List Vl} {c:C} {cs:Cs} {i:Nat} {er:Xc}
theorem cA (h:aP M c η S=.exc er η1 S1):exec M (.cons c cs) η S=.exc er η1 S1:=by simp only [exec,h]
theorem x_raise {cl f:Str} (h:ev M e η S=.ok x S1) (hx:M.xi cl=some (some f)):aP M (.raise cl (.cons e .nil)) η S=.exc ⟨cl,some ([f],[x])⟩ η S1:=by
 simp only [aP,evs,h,Res.bind,Res.out,hx]
theorem aaM (h:ev M e η S=.exc er S1):aP M (.ex e) η S=.exc er η S1:=by simp only [aP,h,Res.out]
theorem xV {m:Str} (hs:evs M es η S=.ok xs S1) (hc:M.cal m xs S1=.exc er S2):ev M (.call m es) η S=.exc er S2:=by simp only [ev,hs,Res.bind,pX,hc]
theorem agu {f:F} (h:d9 M f η S=.exc er S1):ev M (.inl f) η S=.exc er S1:=by simp only [ev,h,Res.bind]
theorem LC {p q:CmpOp} (ha:ev M a η S=.ok x S1) (hb:ev M b η S1=.ok y S2) (hp:cmpop p S2 x y=some false):ev M (.Ru p q a b e) η S=.ok (.bl false) S2:=by
 simp only [ev,ha,hb,Res.bind,ig,hp,Bool.false_eq_true,if_false]
theorem W9 {m:Int} (ha:ev M a η S=.ok (.int m) S1):ev M (.neg a) η S=.ok (.int (-m)) S1:=by simp only [ev,ha,Res.bind]
theorem ajp {cl d:Str} {ns:List Str} {vs:List Vl} {w:Bool} (ha:ev M a η S=.ok (.err d ns vs) S1) (h:M.sub d cl=some w):ev M (.xP cl a) η S=.ok (.bl w) S1:=by simp only [ev,ha,Res.bind,h,Option.map_some,ig]
theorem abR (ha:ev M a η S=.ok x S1) (hl:(bV S1 x).isSome=true) (hb:ev M b η S1=.ok y S2) (hc:Qc S2 x y=some z):ev M (.aaL a b) η S=.ok z S2:=by simp only [ev,ha,Res.bind,hl,if_true,hb,hc,ig]
theorem aay (ha:ev M a η S=.ok x S1) (hl:(bV S1 x).isSome=true) (hb:ev M b η S1=.ok y S2) (hc:yK S2 x y=some z):ev M (.ab2 a b) η S=.ok z S2:=by simp only [ev,ha,Res.bind,hl,if_true,hb,hc,ig]
theorem ye {u w:Str} (ha:ev M a η S=.ok (.str u) S1) (hb:ev M b η S1=.ok (.str w) S2) (hw:w.length≠0) (hu:u.length+2≤1000000):d9 M (.split a b) η S=.ok (.lst ((Txt.split u w).map .str)) S2:=by
 simp only [d9,ha,Res.bind,hb]
 rw [if_pos ⟨hw,Nat.le_trans hu (by decide)⟩]
theorem ahO {bd hd:Cs} {cl:Str} (h:exec M bd η S=.nx η1 S1):aP M (.try_ bd cl i hd) η S=.nx η1 S1:=by simp only [aP,h]
theorem agJ {bd hd:Cs} {cl:Str} (h:exec M bd η S=.exc er η1 S1) (hs:M.sub er.c cl=some true) (f1:Y9 η1=true) (f2:TF S1=true) (hh:exec M hd (η1.set i (some er.vl)) S1=.nx η2 S2) (f3:Y9 (η2.set i none)=true) (f4:TF S2=true):aP M (.try_ bd cl i hd) η S=.nx (η2.set i none) S2:=by
 simp only [aP,h,hs,f1,f2,and_self,if_true,hh,f3,f4]
end
theorem Ly {x:Xc} {n:Nat} (h:∀ ns vs,x.fs=some (ns,vs)→dH vs=true):x.lim n=true:=by
 unfold Xc.lim
 cases e:x.fs with
 | none=>rfl
 | some p=>exact mU n _ (h p.1 p.2 (by rw [e]))
theorem Mr {M:aF} {d:jU} {xs:List Vl} {S T:Hs} {x:Xc} {η:Sg} (hl:xs.length=d.np) (hb:exec M d.body (xs.map some++List.replicate (d.nn - xs.length) none) S=.exc x η (S++T)) (hS:NR S) (hx:∀ ns vs,x.fs=some (ns,vs)→dH vs=true):gK M d xs S=.exc x S:=by
 unfold gK
 rw [if_pos hl,hb]
 simp only [adH]
 have ht:(S++T).take S.length=S:=by simp
 rw [if_pos ⟨by rw [ht];exact hS.cl _,Ly hx⟩,ht]
theorem abi {M:aF} {d:jU} {xs:List Vl} {S T:Hs} {o o':Ob} {x:Xc} {η:Sg} (hl:xs.length=d.np) (hb:exec M d.body (xs.map some++List.replicate (d.nn - xs.length) none) (S++[o])=.exc x η (S++[o']++T)) (hS:NR S) (ho:o'.nr=true) (hx:∀ ns vs,x.fs=some (ns,vs)→dH vs=true):gK M d xs (S++[o])=.exc x (S++[o']):=by
 unfold gK
 rw [if_pos hl,hb]
 simp only [adH]
 have hn:(S++[o]).length=(S++[o']).length:=by simp
 rw [hn]
 have ht:(S++[o']++T).take (S++[o']).length=S++[o']:=by
  rw [List.take_append_of_le_length (Nat.le_refl _),List.take_length]
 rw [if_pos ⟨by rw [ht];exact (hS.one ho).cl _,Ly hx⟩,ht]
theorem afU {M:aF} {es:Es} {η:Sg} {S S1:Hs} {xs:List Vl} {cl:Str} {o:Ob} {x:Xc} (hs:evs M es η S=.ok xs S1) (hS:NR S1) (hc:M.cal (dot cl "__init__") (.ref S1.length::xs) (S1++[.ins cl [] []])=.exc x (S1++[o])) (hx:∀ ns vs,x.fs=some (ns,vs)→dH vs=true):d9 M (.new cl es) η S=.exc x S1:=by
 simp only [d9,hs,Res.bind,hc,Cj]
 have ht:(S1++[o]).take S1.length=S1:=by rw [List.take_append_of_le_length (Nat.le_refl _),List.take_length]
 rw [ht,if_pos ⟨by simp,hS.cl _,Ly hx⟩]
theorem af3 {o:Ob} (n:Nat) (h:o.nr=true):o.lim n=true:=by
 cases o with
 | lst xs=>exact mU n xs h
 | dct ks xs=>exact mU n xs h
 | ins c ns xs=>exact mU n xs h
 | zU ks xs=>exact mU n xs h
theorem Jp {body:Sg→Hs→Out} {t:Tg} {lk:List Lk} (I:Nat→Sg→Hs→Prop) (j:Nat):∀ (xs:List Vl) (k:Nat) (η:Sg) (S:Hs) (x:Vl),I k η S→(∀ i η S,I i η S→cP lk S)→xs[j]? =some x→
  (∀ i x η S,i<j→xs[i]? =some x→I (k+i) η S→∃ η1,aZ t x η=some η1∧∃ η2 S2,(body η1 S=.nx η2 S2∨body η1 S=.cnt η2 S2)∧I (k+i+1) η2 S2)→
  ∃ η' S',I (k+j) η' S'∧∀ η1 o,aZ t x η'=some η1→body η1 S'=o→((∃ e η2 S2,o=.exc e η2 S2)∨∃ r S2,o=.ret r S2)→forL body t lk xs η S=o
 | [],k,η,S,x,h0,hl,hx,_=>by simp at hx
 | y::xs,k,η,S,x,h0,hl,hx,hs=>by
  cases j with
  | zero=>
   cases (show some y=some x by simpa using hx)
   refine ⟨η,S,h0,fun η1 o h1 h2 h3=> ?_⟩
   unfold forL
   rw [if_pos (hl k η S h0),h1]
   simp only [h2]
   rcases h3 with ⟨e,a,b,rfl⟩ | ⟨r,a,rfl⟩<;>rfl
  | succ j=>
   obtain ⟨η1,e1,η2,S2,e2,h2⟩:=hs 0 y η S (by omega) rfl h0
   obtain ⟨η',S',h3,h4⟩:=Jp I j xs (k+1) η2 S2 x h2 hl (by simpa using hx) fun i z η S hi ey hI=>by
    have:=hs (i+1) z η S (by omega) (by simpa using ey) (by rw [show k+(i+1)=k+1+i by omega];exact hI)
    rw [show k+(i+1)+1=k+1+i+1 by omega] at this
    exact this
   refine ⟨η',S',by rw [show k+(j+1)=k+1+j by omega];exact h3,fun η3 o a1 a2 a3=> ?_⟩
   unfold forL
   rw [if_pos (hl k η S h0),e1]
   rcases e2 with e2 | e2<;>simp only [e2]<;>exact h4 η3 o a1 a2 a3
theorem Rm {body:Sg→Hs→Out} {t:Tg} {lk:List Lk} {xs:List Vl} {η:Sg} {S:Hs} (I:Nat→Sg→Hs→Prop) (j:Nat) {x:Vl} (h0:I 0 η S) (hl:∀ i η S,I i η S→cP lk S) (hx:xs[j]? =some x)
  (hs:∀ i x η S,i<j→xs[i]? =some x→I i η S→∃ η1,aZ t x η=some η1∧∃ η2 S2,(body η1 S=.nx η2 S2∨body η1 S=.cnt η2 S2)∧I (i+1) η2 S2) :
  ∃ η' S',I j η' S'∧∀ η1 o,aZ t x η'=some η1→body η1 S'=o→((∃ e η2 S2,o=.exc e η2 S2)∨∃ r S2,o=.ret r S2)→forL body t lk xs η S=o:=by
 obtain ⟨η',S',h,k⟩:=Jp I j xs 0 η S x h0 hl hx fun i x η S hi e h=>by rw [Nat.zero_add] at h ⊢;exact hs i x η S hi e h
 rw [Nat.zero_add] at h
 exact ⟨η',S',h,k⟩
end Oz
namespace Oz
open PySem PySem.Spec L2 PyProof.Rows
structure Bx where
 nm:String
 new_:String
 ini:String
 tl:List Value
 bn:String
 btl:List Value
structure Np (b:Bx):Prop where
 base:ExcBaseFacts b.bn b.new_ b.ini b.btl
 hB:b.tl.contains (.type b.bn)=true
 hA:b.tl.contains (.type "AttributeError")=false
 hN:b.tl.contains (.type "NameError")=false
 sto:StoreFacts b.nm b.tl "object.__setattr__" "object"
def bxV:Bx:=⟨"ValueError","ValueError.__new__","ValueError.__init__",[.type "ValueError",.type "Exception",.type "BaseException",.type "object"],"ValueError",[.type "ValueError",.type "Exception",.type "BaseException",.type "object"]⟩
def bxL:Bx:=⟨"LookupError","LookupError.__new__","LookupError.__init__",[.type "LookupError",.type "Exception",.type "BaseException",.type "object"],"LookupError",[.type "LookupError",.type "Exception",.type "BaseException",.type "object"]⟩
def bxI:Bx:=⟨"IndexError","IndexError.__new__","IndexError.__init__",[.type "IndexError",.type "LookupError",.type "Exception",.type "BaseException",.type "object"],"IndexError",[.type "IndexError",.type "LookupError",.type "Exception",.type "BaseException",.type "object"]⟩
theorem SJ:Np bxV:=⟨F.excBase_ValueError,F.excBase_ValueError.hasB,F.excBase_ValueError.noAttr,F.excBase_ValueError.noName,F.store_ValueError⟩
section
variable {prog:Program} {w:World} {A:Around} {E:Value→Shared→Prop} {R:Result→Shared→Prop} {h:Heap} {g:Array GenState} {d:Drawn} {t:Nat} {os:OsState}
variable {nm q:Str} {C N fI:Addr} {bs bm bb rest:List Value} {hd:Bool} {sn:List Str} {sub:List Value} {ab:Bool} {col:Option Bool} {dd:Option Addr} {k0 k1 k2 k3 k5:Option Value} {B nw ini:String}
theorem adB (F:ExcBaseFacts B nw ini bb) (e1:bm.contains (.type B)=true) (e2:bm.contains (.type "AttributeError")=false) (e3:bm.contains (.type "NameError")=false) (hC:h.get? C=some (excClassObj nm q C N bs bm hd sn sub ab col dd k0 k1 k2 k3 k5 nw))
  (go:R (.ok (.ret (.ref (h.objs.size+1)))) ⟨(h.push (PySem.W.kdv_tup rest)).push (PySem.HandSPX.excO C h.objs.size),g,d,t,os⟩) (hr:rest.length≤sizeLine):codeAny (model prog w) A (.builtin nw ⟨.ref C::rest,[]⟩) R ⟨h,g,d,t,os⟩:=by
 have l:=F.ends
 have c1:(Value.ref C::bm).contains (.type B)=true:=by rw [List.contains_cons,e1];exact Bool.or_true _
 have c2:(Value.ref C::bm).contains (.type "AttributeError")=false:=by rw [List.contains_cons,e2];rfl
 have c3:(Value.ref C::bm).contains (.type "NameError")=false:=by rw [List.contains_cons,e3];rfl
 apply codeAny_builtinAt F.entry
 unfold Builtin.«BaseException.__new__»
 refine PySem.wpAt_bind ?_
 show PySem.wpAt _ _ _ (stack>>=_) _ _ _
 refine PySem.wpAt_bind ?_
 refine PySem.wpAt_stack fun p below=>PySem.wpAt_of_wpAny ?_
 wp_walk
 refine PySem.wpAt_of_wpAny ?_
 rw [F.owner]
 repeat first
  | with_reducible refine wpAny_madeHere_exc F.canon hC ?_
  | with_reducible refine wpAny_loadPart_at hC ?_
  | (with_reducible refine wpAny_isSubtype_exc hC ?_;first | rw [c1] | rw [c2] | rw [c3])
  | wp_step
 show R _ _
 rw [Heap.size_push];exact go
theorem ada {M:Model} {Q:Unit→Shared→Prop} (F:ExcBaseFacts B nw ini bb) (e1:bm.contains (.type B)=true) (hC:h.get? C=some (excClassObj nm q C N bs bm hd sn sub ab col dd k0 k1 k2 k3 k5 nw)) (go:Q () ⟨h,g,d,t,os⟩):wpAny M A (checkBuiltinCall nw ⟨.ref C::rest,[]⟩) Q E ⟨h,g,d,t,os⟩:=by
 have c1:(Value.ref C::bm).contains (.type B)=true:=by rw [List.contains_cons,e1];exact Bool.or_true _
 have l:=F.noStar
 simp only [checkBuiltinCall,F.newKind,F.newSplit,F.newRow]
 repeat first
  | refine wpAny_loadPart_at hC ?_
  | (refine wpAny_isSubtype_exc hC ?_;rw [c1])
  | refine wpAny_staticBase_exc hC ?_
  | refine wpAny_madeBy_exc hC ?_
  | simp only [bne_self_eq_false,Bool.false_eq_true,if_false]
  | wp_step
 exact go
theorem aaA (F:ExcBaseFacts B nw ini bb) (e1:bm.contains (.type B)=true) (e2:bm.contains (.type "AttributeError")=false) (e3:bm.contains (.type "NameError")=false) (hC:h.get? C=some (excClassObj nm q C N bs bm hd sn sub ab col dd k0 k1 k2 k3 k5 nw))
  (hi:PySem.W.Looks (model prog w) h (typeLookup (.ref C) "__init__") (some (.ref fI))) (hb:∀ self,PySem.W.Looks (model prog w) h (bindSpecial (.ref fI) self) (.ref fI,[self])) (hr:rest.length≤sizeLine)
  (go:codeAny (model prog w) (A.under (.builtin "type.__call__" ⟨.ref C::rest,[]⟩)) (.call (.ref fI) ⟨.ref (h.objs.size+1)::rest,[]⟩) (PySem.W.InitBack (h.objs.size+1) R) ⟨(h.push (PySem.W.kdv_tup rest)).push (PySem.HandSPX.excO C h.objs.size),g,d,t,os⟩) :
  codeAny (model prog w) A (.call (.ref C) ⟨rest,[]⟩) R ⟨h,g,d,t,os⟩:=by
 have f1:=tc_lookup
 have f2:=tc_bind (.ref C)
 have ty:(⟨h,g,d,t,os⟩:Shared).TypeIs (.ref C) "type":=⟨_,hC,rfl⟩
 have kp:∀ b o,h.get? b=some o→((h.push (PySem.W.kdv_tup rest)).push (PySem.HandSPX.excO C h.objs.size)).get? b=some o:=fun _ _ e=>Heap.get?_push_of_some _ (Heap.get?_push_of_some _ e)
 have hx:((h.push (PySem.W.kdv_tup rest)).push (PySem.HandSPX.excO C h.objs.size)).get? (h.objs.size+1)=some (PySem.HandSPX.excO C h.objs.size):=by heap_get
 have cC:(Value.ref C::bm).contains (.ref C)=true:=by simp
 have h1:=kp _ _ hC
 have i1:=hi.keeps kp
 have b1:=(hb (.ref (h.objs.size+1))).keeps kp
 apply codeAny_of_tree
 show wpAny _ _ (callAny (.ref C) _) _ _ _
 repeat any_goals first | assumption | with_reducible refine wpAny_loadPart_at hC ?_ | wp_step
 refine ⟨rfl,codeAny_call_builtin_at (Code.quiet_builtin _ (by decide+kernel)) entry_typeCall (wpAny_check_type_call_sub hC ?_)⟩
 repeat first | with_reducible refine wpAny_loadPart_at hC ?_ | with_reducible refine wpAny_madeBy_exc hC ?_ | wp_step
 refine codeAny_call_builtin_code (Code.quiet_builtin _ F.quiet) (ada F e1 hC (adB F e1 e2 e3 hC ?_ hr))
 show wpAny _ _ _ _ _ _
 unfold isInstance
 repeat first | with_reducible refine wpAny_loadPart_at hx ?_ | ((show wpAny _ _ (isSubtype (.ref C) (.ref C)) _ _ _);refine wpAny_isSubtype_exc h1 ?_;rw [cC]) | wp_step
 show wpAny _ _ (typeLookup (.ref C) _) _ _ _
 refine i1.at (wpAny_holding (wpAny_bind (b1.at (wpAny_bind (wpAny_call (codeAny_mono go fun r s' z=> ?_))))))
 rcases r with e | (v | _ | _ | _)<;>first
  | exact z
  | exact z.elim
  | (obtain ⟨rfl,z⟩:=z;first | exact wpAny_pure (wpAny_pure z) | (wp_walk;done) | (wp_walk;exact z))
end
structure YH (b:Bx) (K:PySem.W.Frag) (C:Addr):Prop where
 cls:∃ nm q N bs bm sn sub ab col dd k0 k1 k2 k3 k5,K.lookup C=some (excClassObj nm q C N bs bm true sn sub ab col dd k0 k1 k2 k3 k5 b.new_)∧PySem.W.excTail b.tl bm=true
 sa:PySem.W.findIn K (.ref C) "__setattr__"=some (some (.builtin "object.__setattr__"))
 bx:PySem.W.subIn K (.ref C) (.type "BaseException")=some true
 ty:PySem.W.typeIn K (.ref C)=some (.type "type")
 kp:PySem.W.keepIn K (.ref C)=true
section
variable {prog:Program} {w:World} {A:Around} {E:Value→Shared→Prop} {R:Result→Shared→Prop} {hp:Heap} {g:Array GenState} {d:Drawn} {t:Nat} {os:OsState} {b:Bx}
theorem Za {K:PySem.W.Frag} {fn:Str} {tk:Tok} {v:Value} {x C:Addr} {fv:Array Value} {cd:ClassData} (bk:Np b) (X:K.In hp) (ex:hp.get? x=some { cls:=.ref C,data:=.fields fv })
  (ov:PySem.W.excOver K C b.tl=true) (ec:PySem.W.clsIn K C=some cd) (hh:cd.hasDict=true) (en:PySem.W.findIn K (.ref C) fn=some none)
  (go:∀ h' tk' dx,(∀ b o,b≠x→hp.get? b=some o→h'.get? b=some o)→hp.objs.size≤dx→dx≠x→h'.get? x=some { cls:=.ref C,dict:=some dx,data:=.fields fv }→h'.Ns1 dx (fun y=>if y=fn then some v else none)→R (.ok (.ret .none)) ⟨h',g,d,tk',os⟩) :
  codeAny (model prog w) A (.call (.builtin "object.__setattr__") ⟨[.ref x,.str fn tk,v],[]⟩) R ⟨hp,g,d,t,os⟩:=by
 refine PySem.W.osa_openX (r:=none) bk.sto X (ox:={ cls:=.ref C,data:=.fields fv }) (od:=none) ⟨ex,rfl,rfl,trivial⟩ ov (by unfold PySem.W.takerIn;rw [en];rfl) fun onT=> ?_
 have kc:PySem.W.Looks (model prog w) hp (classData C) cd:=PySem.W.looks_clsIn X ec
 have ne:x≠hp.objs.size:=Nat.ne_of_lt (Heap.lt_size ex)
 cases cd with
 | mk nm bs mro ns qn hd sn sb ab col del=>
 cases (show hd=true from hh)
 show wpAny _ _ (Builtin.ObjectAttr.storeInOwnDict (.ref x) (.ref C) (.str fn tk) fn v onT) _ _ _
 unfold Builtin.ObjectAttr.storeInOwnDict Builtin.ObjectAttr.ownDictForStores
 repeat (first | with_reducible refine PySem.HandSPX.store_in_new ?_ ?_ | with_reducible refine wpAny_loadPart_at ex ?_ | with_reducible refine kc.at ?_ | wp_step)
 ·exact ⟨_, #[],_,(Heap.get?_update_ne _ _ _ _ ne.symm).trans (Heap.get?_push_at rfl rfl),rfl,fun e he=>absurd he (by simp),fun _=>rfl⟩
 ·intro h' tk' hn' hs
  have e1:(hp.push { cls:=.type "dict",data:=.dict #[] }).get? x=some { cls:=.ref C,data:=.fields fv }:=Heap.get?_push_of_some _ ex
  exact go h' tk' hp.objs.size (fun q o hb ho=>(hs.2 q (Nat.ne_of_lt (Heap.lt_size ho))).trans ((Heap.get?_update_ne _ _ _ _ hb).trans (Heap.get?_push_of_some _ ho))) (Nat.le_refl _) ne.symm ((hs.2 x ne).trans (Heap.get?_update_self _ e1 rfl)) hn'
end
section
variable {X:Cx} {pins:List (Addr × Obj)} {σ:L2.St} {H:Hp} {s:Shared} {a C:Addr} {f:Str} {y:V} {u:Value} {Q:Unit→Shared→Prop} {E:Value→Shared→Prop} {A:Around} {b:Bx}
theorem Y7 (bk:Np b) (T:YH b X.K C) (I:Inv X pins σ H s) (e:H a=some (exo a C none)) (en:PySem.W.findIn X.K (.ref C) f=some none) (ry:RelV y u)
  (go:∀ dx s',H dx=none→dx≠a→Inv X pins σ (upd (upd H dx (exd dx [(f,y)])) a (exo a C (some dx))) s'→Q () s'):wpAny (model X.prog X.w) A (setAttr (.ref a) f u) Q E s:=by
 obtain ⟨nm,q,N,bs,bm,sn,sub,ab,col,dd,k0,k1,k2,k3,k5,eC,tlo⟩:=T.cls
 have ec:PySem.W.clsIn X.K C=some { name:=nm,bases:=bs,mro:=.ref C::bm,ns:=N,qualname:=q,hasDict:=true,slotNames:=sn,subclasses:=sub,abstract:=ab,collection:=col,hasDel:=false }:=by
  unfold PySem.W.clsIn;rw [eC]<;>rfl
 have ov:PySem.W.excOver X.K C b.tl=true:=by
  unfold PySem.W.excOver;rw [ec]
  show (C==C&&PySem.W.excTail b.tl bm)=true
  rw [tlo,beq_self_eq_true];rfl
 obtain ⟨t1,eo⟩:=exo_at I.hok e
 cases s with
 | mk hp g d t os=>
 refine PySem.W.set_plain I.kIn (ox:={ cls:=.ref C,dict:=none,data:=.fields #[.ref t1,.none,.none,.none,.bool false,.none] }) (od:=none) ⟨eo,rfl,rfl,trivial⟩ T.sa (Za bk I.kIn eo ov ec rfl en fun h' tk' dx k dn dne hx hn=> ?_)
 have fr:H dx=none:=I.hok.fresh dn
 have n1:∀ {c:Addr} {o:Obj},hp.get? c=some o→c≠dx:=fun q=>Nat.ne_of_lt (Nat.lt_of_lt_of_le (Heap.lt_size q) dn)
 have n2:∀ {c:Addr},H c=none→c≠a:=fun n z=>by rw [z,e] at n;cases n
 have U:Un X.fs [] H (upd (upd H dx (exd dx [(f,y)])) a (exo a C (some dx))) hp h':=by
  constructor
  ·exact fun c o q n _ _=>k c o (n2 n) q
  ·exact fun c o q n _ _=>⟨o.slots,k c o (n2 n) q⟩
  ·exact fun c o q n _=>by rw [upd_ne (n2 n),upd_ne (n1 q)];exact n
  ·intro c o q _
   by_cases hc:c=a
   ·exact ⟨_,hc ▸ hx⟩
   ·exact ⟨o,k c o hc q⟩
  ·exact fun c xs q=>by rw [upd_ne (at_ne e q exo_tup),upd_ne (ne_of_none q fr)];exact q
  ·exact fun c o v q=>by rw [upd_ne (at_ne e q exo_frz),upd_ne (ne_of_none q fr)];exact q
  ·exact fun c ps q=>⟨#[],by rw [upd_ne (at_ne e q exo_tbl),upd_ne (ne_of_none q fr),q];simp⟩
 refine go dx _ fr dne (I.un (t':=tk') U fun c o q=> ?_)
 by_cases hc:c=a
 ·subst hc;rw [upd_same] at q;cases q;exact exo_ok hx
 rw [upd_ne hc] at q
 by_cases hd:c=dx
 ·subst hd;rw [upd_same] at q;cases q;exact exd_ok hn (relO_put (fs:=[]) ry fun g=>True.intro)
 rw [upd_ne hd] at q
 refine (I.hok c o q).stay (fun m v hm z=>k m v ?_ z) (fun m hm=> ?_) fun m xs hm=> ?_
 ·rcases hm with hm | hm
  ·exact hm ▸ hc
  ·exact at_ne e hm exo_own
 ·rw [upd_ne (at_ne e hm exo_own),upd_ne (ne_of_none hm fr)];exact hm
 ·rw [upd_ne (at_ne e hm exo_tup),upd_ne (ne_of_none hm fr)];exact hm
end
def ak4 (b:Bx) (K:PySem.W.Frag) (f:Str) (to te:TE):TS:=fun D σ H=>te σ H fun y H1=>to σ H1 fun x H2=>∃ a C:Addr,x=.ref a∧YH b K C∧PySem.W.findIn K (.ref C) f=some none∧
 H2 a=some (exo a C none)∧∀ dx,H2 dx=none→dx≠a→D.nx σ (upd (upd H2 dx (exd dx [(f,y)])) a (exo a C (some dx)))
theorem ahA {X:Cx} {o e:Expr} {to te:TE} {f:Str} {p' pos:Pos} {b:Bx} (bk:Np b) (ho:PE X o to) (he:PE X e te) (hs:swapsWith e (some (.Attribute o f p')) pos.line X.env=pure false:=by rfl):PS X (.Assign [.Attribute o f p'] e pos) (ak4 b X.K f to te):=
 ⟨fun pins s σ H D I h=>plainObj_wpAny_Assign_Attribute (thn (he.run pins s σ H _ I h) fun v s1 ⟨y,H1,I1,r1,q1⟩=>thn (ho.run pins s1 σ H1 _ I1 q1) fun u s2 ⟨x,H2,I2,r2,a,C,ex,T,en,ea,q⟩=>by
  subst ex
  cases (show u=Value.ref a from r2)
  exact Y7 bk T I2 ea en r1 fun dx s' n ne J=>⟨σ,_,J,q dx n ne⟩) hs⟩
theorem af2 {P:Program} {w:World} {K:PySem.W.Frag} {mg:Str→Option Value} {base:Heap} {x bA fld n0 n1:Str} {params:Arguments} {body:List Stmt} {scope:Scope} {fI C:Addr} {fd:FuncData} {ps:List Str} {p1 p2 p3 p4:Pos} {b:Bx} (bk:Np b)
  (F:FunD K x bA params body scope [] [] fI fd) (Sc:FnScope [n0,n1] ps scope) (hps:ps.length=2) (hb:body=[.Assign [.Attribute (.Name n0 p1) fld p2] (.Name n1 p3) p4]) (T:YH b K C) (hno:PySem.W.findIn K (.ref C) fld=some none)
  (v0:Vis scope n0) (v1:Vis scope n1) (d0:(n0==("__debug__":Str))=false∧(n0==("__classdict__":Str))=false) (d1:(n1==("__debug__":Str))=false∧(n1==("__classdict__":Str))=false)
  (hs:∀ env:Env,swapsWith (.Name n1 p3) (some (.Attribute (.Name n0 p1) fld p2)) p4.line env=pure false) :
  FnOk P w K mg base (L2.CX P w) 1 fI fd ps (aha K C fld):=by
 obtain ⟨oc,od,dV,kV,wW,pm,an,cI,ct,XX,rfl,lk,Ab,_,_⟩:=F.ex
 subst hb
 refine fn_of lk Ab Sc (fun vs H Q E ⟨a,v,e,_⟩=>by rw [e,hps];rfl) fun A outer s H vs Q E hr ⟨a,v,e,ha,hq⟩=>⟨_,pss_cons (ahA bk (pe_var (i:=0) rfl v0 d0.1 d0.2) (pe_var (i:=1) rfl v1 d1.1 d1.2) (hs _)) pss_nil,?_⟩
 subst e
 exact ⟨v,rfl,.ref a,rfl,a,C,rfl,T,hno,ha,fun dx n ne=>hq dx n ne⟩
structure aet (P:Program) (w:World) (K:PySem.W.Frag) (mg:Str→Option Value) (base:Heap) (C:Addr) (x f:Str):Prop where
 ex:∃ (b:Bx) (fI:Addr) (fd:FuncData) (ps:List Str),Np b∧FnOk P w K mg base (L2.CX P w) 1 fI fd ps (aha K C f)∧YH b K C∧PySem.W.findIn K (.ref C) "__init__"=some (some (.ref fI))∧PySem.W.typeIn K (.ref fI)=some (.type "function")∧Binds K fd ps []∧mg x=some (.ref C)
section
variable {G:bB} {M:aF} {W:WX} {X:Cx} {k:Nat} {c f:Str} {a:Expr} {ca:E} {p pos jA:Pos}
end
end Oz
namespace Oz
open PySem PySem.Spec L2 PyProof.Rows
structure afR (K:PySem.W.Frag) (mg:Str→Option Value) (C:Addr) (x:Str):Prop where
 ex:∃ b:Bx,Np b∧PySem.W.excIn K C b.btl b.new_=true∧mg x=some (.ref C)∧PySem.W.keepIn K (.ref C)=true∧PySem.W.subIn K (.ref C) (.type "BaseException")=some true∧PySem.W.typeIn K (.ref C)=some (.type "type")
section
variable {G:bB} {M:aF} {W:WX} {X:Cx} {k j:Nat} {c m:Str} {p p2 pos jA:Pos}
end
end Oz
namespace Oz
open PySem PySem.Spec L2 PyProof PyProof.Rows
def afh:List (Str × jU)→Str→Option jU
 | [],_=>none
 | p::l,q=>if q=p.1 then some p.2 else afh l q
def dl (k:Str) (d:jU) (l:List (Str × jU)):List (Str × jU):=(k,d)::l
def scB (N ps:List Str) (sc:Scope):Bool:=(match sc.kind with | .function=>true | _=>false)&& !sc.isCoroutine&& !sc.isGenerator&&decide N.Nodup&&(N.take ps.length==ps)&&(ps.all fun x=>match sc.names.lookup x with | some .local=>true | some .cell=>true | _=>false)&&(sc.names.all fun y=>match y.2 with | .free=>false | _=>true)
theorem scp {N ps:List Str} {sc:Scope} (h:scB N ps sc=true):FnScope N ps sc:=by
 simp only [scB,Bool.and_eq_true,Bool.not_eq_true',decide_eq_true_eq,beq_iff_eq,List.all_eq_true] at h
 obtain ⟨⟨⟨⟨⟨⟨h1,h2⟩,h3⟩,h4⟩,h5⟩,h6⟩,h7⟩:=h
 refine ⟨?_,h2,h3,h4,h5,fun x hx=> ?_,fun y hy e=> ?_⟩
 ·revert h1;cases sc.kind<;>simp
 ·have:=h6 x hx
  revert this
  rcases sc.names.lookup x with _ | (_ | _)<;>simp
 ·have:=h7 y hy
  rw [e] at this;simp at this
section
variable {P:Program} {w:World} {K:PySem.W.Frag} {mg:Str→Option Value} {base h:Heap} {G:bB} {nm ql c q x:Str} {st:Stmt} {ps N:List Str} {M M':aF} {d:jU} {n m k:Nat} {C:Addr}
structure FP (G:bB) (mg:Str→Option Value) (nm:Str) (st:Stmt) (ps:List Str):Prop where
 ex:∃ (f:Addr) (fd:FuncData),FunD G.K nm nm (defArgs st) (defBody st) (defScope st) [] [] f fd∧mg nm=some (.ref f)∧Binds G.K fd ps []
structure FM (G:bB) (c nm ql:Str) (st:Stmt) (ps:List Str):Prop where
 ex:∃ (f:Addr) (fd:FuncData),FunD G.K nm ql (defArgs st) (defBody st) (defScope st) [] [] f fd∧PySem.W.findIn G.K (.ref (G.cl c)) nm=some (some (.ref f))∧PySem.W.isFn G.K (.ref f)=true∧Binds G.K fd ps []
abbrev tK (P:Program) (w:World) (mg:Str→Option Value) (base:Heap) (G:bB) (M:aF) (k:Nat) (x:Str) (n:Nat):Prop:=Cal P w G.K mg base G M k x x n
abbrev Pr (P:Program) (w:World) (mg:Str→Option Value) (base:Heap) (G:bB) (k:Nat) (M:aF) (m:Nat) (q nm ql:Str) (st:Stmt) (ps:List Str):Prop:=
 ∀ (f:Addr) (fd:FuncData),FunD G.K nm ql (defArgs st) (defBody st) (defScope st) [] [] f fd→qu P w G.K mg base k f fd ps (spI G M m q)
theorem z0 (hn:m=ps.length:=by rfl) (hM:∀ xs S,M.cal q xs S=.bad:=by exact fun _ _=>rfl):Pr P w mg base G k M m q nm ql st ps:=fun _ _ _=>ahp hn hM
abbrev Bd (P:Program) (w:World) (mg:Str→Option Value) (base:Heap) (G:bB) (N:List Str) (ql:Str) (st:Stmt) (M':aF) (n:Nat) (b:Cs):Prop:=
 ∀ (f:Addr) (cI:Value) (A:Around) (outer:List Env) (s:Shared) (H:Hp) (E:XK) [bT G (cxOf (L2.CX P w) P w G.K mg base N ql (defScope st) f cI A outer s H E)],
  Good G (4* n+1) (cxOf (L2.CX P w) P w G.K mg base N ql (defScope st) f cI A outer s H E)→Good G (4* n+3) (cxOf (L2.CX P w) P w G.K mg base N ql (defScope st) f cI A outer s H E)→
  PassesOwn (model (cxOf (L2.CX P w) P w G.K mg base N ql (defScope st) f cI A outer s H E).prog (cxOf (L2.CX P w) P w G.K mg base N ql (defScope st) f cI A outer s H E).w) (cxOf (L2.CX P w) P w G.K mg base N ql (defScope st) f cI A outer s H E).A (cxOf (L2.CX P w) P w G.K mg base N ql (defScope st) f cI A outer s H E).env (cxOf (L2.CX P w) P w G.K mg base N ql (defScope st) f cI A outer s H E).xe→
  Takes (cxOf (L2.CX P w) P w G.K mg base N ql (defScope st) f cI A outer s H E) (fun cls d _ H'=>E cls d H')→
  PSs (cxOf (L2.CX P w) P w G.K mg base N ql (defScope st) f cI A outer s H E) (defBody st) (vL G M' (fun cls d _ H'=>E cls d H') b)
theorem o1 (he:G.er=none) (N:List Str) (hM:∀ xs S,M.cal q xs S=gK M' d xs S) (hb:Bd P w mg base G N ql st M' n d.body)
  (Sc:FnScope N ps (defScope st):=by exact scp (by decide+kernel)) (Rp:d.np=ps.length:=by rfl) (NK:d.nn=N.length:=by rfl):Pr P w mg base G (4* n+4) M d.np q nm ql st ps:=fun f fd F=>
 aio he (k:=4* n+3) F Sc hM Rp NK fun cI A outer s H E _ g3 hp tk=>hb f cI A outer s H E (g3.le (by omega)) g3 hp tk
theorem cC (F:FP G mg nm st ps) (h:Pr P w mg base G k M m nm nm nm st ps):Cal P w G.K mg base G M k nm nm m:=by
 obtain ⟨f,fd,F,hm,hb⟩:=F.ex
 exact ⟨f,fd,ps,h f fd F,hm,F.kp,hb⟩
theorem cM (hC:∀ c,Cls G.K (G.cl c)) (F:FM G c nm ql st ps) (h:Pr P w mg base G k M m (dot c nm) nm ql st ps):Met P w G.K mg base G M k c nm m:=by
 obtain ⟨f,fd,F,h1,h2,hb⟩:=F.ex
 exact ⟨f,fd,ps,h f fd F,hC _,⟨h1,h2,F.kp⟩,hb⟩
theorem cE (hA:∀ c,zR G.K (G.cl c)) (ne:PySem.W.findIn G.K (.ref (G.cl c)) "__ne__"=some (some (.builtin "object.__ne__"))) (nf:∀ T:String,T="list"∨T="str"∨T="tuple"→PySem.W.notFirst G.K (G.cl c) (.type T)=true) (F:FM G c "__eq__" ql st ps) (h:Pr P w mg base G k M 2 (dot c "__eq__") "__eq__" ql st ps):EqM P w G.K mg base G M k c:=by
 obtain ⟨f,fd,F,h1,h2,hb⟩:=F.ex
 exact ⟨f,fd,ps,h f fd F,⟨h1,h2,ne,(hA _).hm,nf⟩,hb⟩
theorem cR (F:FM G c "__repr__" ql st ps) (h:Pr P w mg base G k M 1 (dot c "__repr__") "__repr__" ql st ps):RpM P w G.K mg base G M k c:=by
 obtain ⟨f,fd,F,h1,h2,hb⟩:=F.ex
 exact ⟨f,fd,ps,h f fd F,h1,h2,hb⟩
theorem cL (F:FM G c "__len__" ql st ps) (h:Pr P w mg base G k M 1 (dot c "__len__") "__len__" ql st ps):LnM P w G.K mg base G M k c:=by
 obtain ⟨f,fd,F,h1,h2,hb⟩:=F.ex
 exact ⟨f,fd,ps,h f fd F,h1,h2,hb⟩
structure FK (K:PySem.W.Frag) (nm:Str) (st:Stmt):Prop where
 ex:∃ (f:Addr) (oc kV dc pm cd ct:Value) (od an:Option Addr) (sl:Array (Option Value)),PySem.W.nsIn K mainGlobals nm=some (some (.ref f))∧K.lookup f=some ⟨oc,od,.func (PySem.W.fnOf nm nm (defArgs st) (defBody st) (defScope st) .none kV dc pm an cd ct),sl⟩∧PySem.W.codeIn K cd nm=true∧PySem.W.keepIn K (.ref f)=true
structure MK (K:PySem.W.Frag) (C:Addr) (nm ql:Str) (st:Stmt):Prop where
 ex:∃ (f:Addr) (oc kV dc pm cd ct:Value) (od an:Option Addr) (sl:Array (Option Value)),PySem.W.findIn K (.ref C) nm=some (some (.ref f))∧K.lookup f=some ⟨oc,od,.func (PySem.W.fnOf nm ql (defArgs st) (defBody st) (defScope st) .none kV dc pm an cd ct),sl⟩∧PySem.W.codeIn K cd ql=true∧PySem.W.keepIn K (.ref f)=true∧PySem.W.isFn K (.ref f)=true
theorem ai2 {f:Addr} {oc kV dc pm cd ct:Value} {od an:Option Addr} {sl:Array (Option Value)} (a:PySem.W.nsIn K mainGlobals nm=some (some (.ref f))) (b:K.lookup f=some ⟨oc,od,.func (PySem.W.fnOf nm nm (defArgs st) (defBody st) (defScope st) .none kV dc pm an cd ct),sl⟩) (c:PySem.W.codeIn K cd nm=true) (d:PySem.W.keepIn K (.ref f)=true):FK K nm st:=⟨_,_,_,_,_,_,_,_,_,_,a,b,c,d⟩
theorem ajy {f:Addr} {oc kV dc pm cd ct:Value} {od an:Option Addr} {sl:Array (Option Value)} (a:PySem.W.findIn K (.ref C) nm=some (some (.ref f))) (b:K.lookup f=some ⟨oc,od,.func (PySem.W.fnOf nm ql (defArgs st) (defBody st) (defScope st) .none kV dc pm an cd ct),sl⟩) (c:PySem.W.codeIn K cd ql=true) (d:PySem.W.keepIn K (.ref f)=true) (e:PySem.W.isFn K (.ref f)=true):MK K C nm ql st:=⟨_,_,_,_,_,_,_,_,_,_,a,b,c,d,e⟩
def VD (a:Arguments) (ps:List Str):Bool:=a.posonlyargs.isEmpty&&a.kwonlyargs.isEmpty&&a.vararg.isNone&&a.kwarg.isNone&&(a.args.map (·.arg)==ps)&&decide ps.Nodup
theorem ZQ {ps:List Str} {us:List Value} (hl:us.length=ps.length):∀ n∈ps,((ps.zip us).lookup n).isSome=true:=by
 induction ps generalizing us with
 | nil=>intro n h;cases h
 | cons p ps ih=>
  intro n h
  match us,hl with
  | u::us,hl=>
   simp only [List.zip_cons_cons,List.lookup_cons]
   by_cases e:n=p
   ·subst e;simp
   ·have:=ih (us:=us) (by simpa using hl) n (by simpa [e] using h)
    rw [beq_false_of_ne e];exact this
theorem agK {ps:List Str} {us:List Value} (hl:us.length=ps.length) (nd:ps.Nodup):ps.filterMap (fun n=>((ps.zip us).lookup n).map (n,·))=ps.zip us:=by
 induction ps generalizing us with
 | nil=>rfl
 | cons p ps ih=>
  match us,hl with
  | u::us,hl=>
   simp only [List.zip_cons_cons,List.filterMap_cons,List.lookup_cons,beq_self_eq_true,Option.map_some]
   congr 1
   refine Eq.trans ?_ (ih (us:=us) (by simpa using hl) (List.nodup_cons.mp nd).2)
   have g:∀ l:List Str,(∀ n∈l,n≠p)→l.filterMap (fun n=>(match n==p with | true=>some u | false=>(ps.zip us).lookup n).map (n,·))=l.filterMap (fun n=>((ps.zip us).lookup n).map (n,·)):=by
    intro l
    induction l with
    | nil=>intro _;rfl
    | cons x l ih=>
     intro h
     simp only [List.filterMap_cons,beq_false_of_ne (h x List.mem_cons_self)]
     rw [ih fun n hn=>h n (List.mem_cons_of_mem _ hn)]
   exact g ps fun n hn e=>(List.nodup_cons.mp nd).1 (e ▸ hn)
theorem Ep {nm ql:Str} {A:Arguments} {body:List Stmt} {sc:Scope} {ps:List Str} (h:VD A ps=true) (kV wW pm:Value) (an:Option Addr) (cI ct:Value) (us:List Value) (hl:us.length=ps.length) :
  bindArgs (PySem.W.fnOf nm ql A body sc .none kV wW pm an cI ct) ⟨us,[]⟩=pure (ps.zip us):=by
 obtain ⟨po,ar,va,ko,kd,kw,df⟩:=A
 simp only [VD,Bool.and_eq_true,List.isEmpty_iff,Option.isNone_iff_eq_none,beq_iff_eq,decide_eq_true_eq] at h
 obtain ⟨⟨⟨⟨⟨rfl,rfl⟩,rfl⟩,rfl⟩,hp⟩,nd⟩:=h
 unfold bindArgs
 simp only [PySem.W.fnOf,List.map_nil,List.nil_append,List.append_nil,hp]
 have hx:∀ n∈ps,((ps.zip us).lookup n).isNone=false:=fun n hn=>by have:=ZQ hl n hn;cases h:(ps.zip us).lookup n<;>simp_all
 have hm:(ps.filter fun n=>((ps.zip us).lookup n).isNone)=[]:=List.filter_eq_nil_iff.mpr fun n hn=>by simp [hx n hn]
 have hs:seqItems? Value.none=(pure none:Sem _):=rfl
 have hf:=agK hl nd
 simp only [List.forIn_nil,pure_bind,hs,hl,Option.getD_none,List.length_nil,Nat.zero_sub,List.drop_nil,Nat.sub_zero,List.take_length,hm,List.isEmpty_nil,Bool.not_true,Bool.false_eq_true,if_false,gt_iff_lt,Nat.lt_irrefl,decide_false,Bool.false_and,List.drop_length,List.zip_nil_left,List.zip_nil_right,List.zip_nil_left,hf]
theorem je (X:G.K.In h) (GG:h.Ns mainGlobals mg) (F:FK G.K nm st) (hb:VD (defArgs st) ps=true:=by decide+kernel):FP G mg nm st ps:=by
 obtain ⟨f,oc,kV,dc,pm,cd,ct,od,an,sl,a,l,c,k⟩:=F.ex
 have F:=zF (st:=st) l c k (kws:=[]) (.inl rfl)
 exact ⟨f,_,F,PySem.W.mg_of X GG a,aef F (Ep hb)⟩
theorem U8 (hC:G.cl c=C) (F:MK G.K C nm ql st) (hb:VD (defArgs st) ps=true:=by decide+kernel):FM G c nm ql st ps:=by
 obtain ⟨f,oc,kV,dc,pm,cd,ct,od,an,sl,a,l,c,k,g⟩:=F.ex
 have F:=zF (st:=st) l c k (kws:=[]) (.inl rfl)
 exact ⟨f,_,F,by rw [hC];exact a,g,aef F (Ep hb)⟩
end
end Oz
namespace Oz
open PySem PySem.Spec L2 PyProof.Rows
abbrev aao (X:Cx) (W:WX):Prop:=L2N.Takes X W
theorem Xr {X:Cx} {W:WX} (tk:Takes X W):aao X W:=fun u s' ⟨a,B,sI,pins,σ,H,cls,d,e,I,nb,up,sky,na,os,ag,w⟩=>tk u s' ⟨a,B,sI,pins,σ,H,cls,d,e,I,nb,up,(match sky with
 | .inl ⟨x1,x2,x3,oe,vs,x4,x5,x6⟩=>.inl ⟨x1,x2,x3,oe,vs,x4,x5.zc,x6⟩
 | .inr (.inl f)=>.inr (.inl (L2H.flyingZ_imp (fun o z=>z.zc) f))
 | .inr (.inr f)=>.inr (.inr ⟨f.1,f.2.1,f.2.2.1,L2H.tracedZ_imp (fun o z=>z.zc) f.2.2.2⟩)),na,os,ag,w⟩
structure QZ (P:Program) (w:World) (K:PySem.W.Frag) (mg:Str→Option Value) (base:Heap) (k:Nat) (f:Addr) (fd:FuncData) (ps:List Str) (sp:Sp):Prop where
 len:∀ vs H Q E,sp vs H Q E→vs.length=ps.length
 run:∀ (A:Around) (outer:List Env) (s:Shared) (H:Hp) (args:Args) (us:List Value) (vs:List V) (Q:VK) (E:XK),Room k A→A.guards=some []→Env0 P w K mg base A outer s H→BindsTo s fd args (ps.zip us)→Vals vs us→sp vs H Q E→
  codeAny (model P w) A (.call (.ref f) args) (CR (L2N.CX P w) outer P w H s Q E) s
theorem aiQ {P:Program} {w:World} {outer:List Env} {H:Hp} {s s':Shared} {E:XK} {u:Value} (h:L2N.CX P w outer H s E u s'):L2.CX P w outer H s E u s':=by
 obtain ⟨a,B,H',cls,d,e,fl,hok,ub,na,os,ag,hE⟩:=h
 exact ⟨a,B,H',cls,d,e,L2H.flyingZ_imp (fun o z=>z.zc) fl,hok,ub,na,os,ag,hE⟩
section
variable {P:Program} {w:World} {K:PySem.W.Frag} {mg:Str→Option Value} {base:Heap} {j k:Nat} {f:Addr} {fd:FuncData} {ps:List Str} {sp:Sp}
theorem QZ.toG (F:QZ P w K mg base k f fd ps sp):qu P w K mg base k f fd ps sp:=⟨F.len,fun A outer s H args us vs Q E hr hg e0 hb rv h=>codeAny_mono (F.run A outer s H args us vs Q E hr hg e0 hb rv h) fun r s' hq=>by
 match r,hq with
 | .error e,hq=>exact aiQ hq
 | .ok (.ret u),hq=>exact hq
 | .ok .next,hq=>exact hq
 | .ok .brk,hq=>exact hq
 | .ok .cont,hq=>exact hq⟩
theorem QZ.mono (F:QZ P w K mg base j f fd ps sp) (h:j≤k):QZ P w K mg base k f fd ps sp:=⟨F.len,fun A outer s H args us vs Q E hr=>F.run A outer s H args us vs Q E (hr.mono h)⟩
end
section
variable {G:bB} {k n:Nat} {X:Cx} {M:aF} {W:WX} {f C:Addr} {fd:FuncData} {ps:List Str} {sp:Sp} {dvs:List V} {ds:List Value} {q x m c:Str} {a e:Expr} {es:List Expr} {ca:E} {cU cs:Es} {p pos cH:Pos} {mv:List Value} {ks:List Str} {dxs:List Vl}
theorem Vp {pins:List (Addr × Obj)} {σ:L2.St} {H:Hp} {s s':Shared} {e:Value} (tk:L2N.Takes X W) (I:Inv X pins σ H s) (h:L2N.CX X.prog X.w X.stack H s (fun c d H'=>W c d σ H') e s'):X.xe e s':=
 tk e s' (L2N.XE.of_call I (fun _ _ _ h=>h) h)
theorem ahF {pins:List (Addr × Obj)} {σ:L2.St} {H:Hp} {s:Shared} {Q:VK} {us:List Value} {vs:List V} (F:QZ X.prog X.w X.K X.mg X.base k f fd ps sp) (hr:Room k X.A) (hg:X.A.guards=some []) (hb:Binds X.K fd ps ds) (hd:Vals dvs ds) (tk:L2N.Takes X W)
  (I:Inv X pins σ H s) (r:Vals vs us) (h:sp (vs++dvs) H Q (fun c d H'=>W c d σ H')):wpAny (model X.prog X.w) X.A (call (.ref f) us) (EP X pins σ Q) X.xe s:=by
 have rr:=r.append hd
 have len:(us++ds).length=ps.length:=rr.length.symm.trans (F.len _ _ _ _ h)
 refine wpAny_call (codeAny_mono (F.run X.A X.stack s H ⟨us,[]⟩ (us++ds) (vs++dvs) Q _ hr hg I.env0 (hb s us I.kIn len) rr h) ?_)
 intro r' s' hq
 match r',hq with
 | .error e,hq=>exact Vp tk I hq
 | .ok (.ret u),hq=>exact I.after hq
 | .ok .next,hq=>exact hq.elim
 | .ok .brk,hq=>exact hq.elim
 | .ok .cont,hq=>exact hq.elim
theorem Xo [bT G X] (g:Good G (k+1) X) (F:QZ X.prog X.w X.K X.mg X.base k f fd ps (spI G M n q)) (hg:Gl X x) (hm:X.mg x=some (.ref f)) (hk:PySem.W.keepIn X.K (.ref f)=true) {dxs:List Vl} {dvs:List V} (hb:Binds X.K fd ps ds) (hd:Vals dvs ds) (hc:Az G dxs dvs) (tk:L2N.Takes X W)
  (ha:PA X (e::es) (tA G M W cU)) (sX:(x==("__debug__":Str))=false:=by decide) (he:starEach (e::es) X.env=(false,eval e X.env)::starEach es X.env:=by rfl) (jt:(backTo pos (starEach es X.env)).any (·.1)=false:=by rfl) :
  PE X (.Call (.Name x p) (e::es) [] pos) (tCl X k n G M q W cU dxs):=by
 refine ⟨fun pins s σ H Q I ⟨ρ,η,S,s0,r,h⟩=> ?_⟩
 have hr:Room k X.A:=g.rm.mono (Nat.le_succ _)
 refine wpAny_Call_Name_kw (ld_glob I hg hm ?_ sX)
 refine PySem.W.callWith_K (h₀:=X.base) I.ok.mod.kin hk (thn (ha.run pos pins s σ H (fun vs H1=>∃ xs ρ1 S1,Step ρ H ρ1 H1∧bf G ρ1 H1 S1∧au G ρ1 H1 xs vs∧xs.length+dxs.length=n∧PR G W σ ρ1 H1 (M.cal q (xs++dxs) S1) (okR G H1 Q)) I ⟨ρ,η,S,s0,r,h.mono fun ρ1 H1 xs S1 bU s1 hl vs hv=>⟨xs,ρ1,S1,bU,s1,hv,hl⟩⟩) fun us s1 ⟨vs,H1,I1,rv,xs,ρ1,S1,bU,sm1,hv,hl,hp⟩=>⟨I1.kIn,?_⟩) he jt
 refine ahF F hr g.Mf hb hd tk I1 rv ⟨?_,ρ1,S1,xs++dxs,sm1,hv.append (hc _ _),PR.vJ hp⟩
 rw [List.length_append,← hv.length,← (hc ρ1 H1).length];exact hl
theorem ab7 {C:Addr} {sp:Sp} {pins:List (Addr × Obj)} {σ:L2.St} {H:Hp} {s:Shared} {Q:VK} {us ws:List Value} {vs zs:List V} (mk:Mk X.K C f) (F:QZ X.prog X.w X.K X.mg X.base k f fd ps sp) (hr:Room (k+1) X.A) (hg:X.A.guards=some []) (hb:KBn X.K fd ps (n+1) ks (fun us ws=>us++ws++mv) (fun vs zs=>vs++zs++dvs)) (tk:L2N.Takes X W)
  (I:Inv X pins σ H s) (r:Vals vs us) (rz:Vals zs ws) (l1:vs.length=n) (l2:zs.length=ks.length)
  (h:∀ x dx,H x=none→H dx=none→dx≠x→sp (.ref x::(vs++zs++dvs)) (upd (upd H dx (.own x)) x (.ins C dx [])) (fun v H2=>v=.non∧Q (.ref x) H2) (fun c d H'=>W c d σ H')) :
  wpAny (model X.prog X.w) X.A (call (.ref C) us (ks.zip ws)) (EP X pins σ Q) X.xe s:=by
 have q0:=h (s.heap.objs.size+1) s.heap.objs.size (I.hok.fresh (Nat.le_succ _)) (I.hok.fresh (Nat.le_refl _)) (Nat.ne_of_lt (Nat.lt_succ_self _))
 have J:=Inv.made (C:=C) I
 have r1:Vals (V.ref (s.heap.objs.size+1)::vs) (Value.ref (s.heap.objs.size+1)::us):=.cons rfl r
 have rr:=hb.rel r1 rz
 have n1:(Value.ref (s.heap.objs.size+1)::us).length=n+1:=by rw [List.length_cons,← r.length,l1]
 refine wpAny_call (make_map (f:=f) I.kIn mk.makes mk.init (beq_iff_eq.mp mk.fn) (codeAny_mono (F.run _ X.stack _ _ ⟨Value.ref (s.heap.objs.size+1)::us,ks.zip ws⟩ _ _ _ _ (hr.make C us (ks.zip ws)) (Bs hg)
  (J.env0.make C us (ks.zip ws)) (hb.to _ (Value.ref (s.heap.objs.size+1)::us) ws J.kIn n1 (rz.length.symm.trans l2)) rr q0) ?_))
 intro r' s' hq
 match r',hq with
 | .error e,hq=>exact Vp (σ:=σ) tk J hq
 | .ok (.ret u),hq=>
  obtain ⟨v,H',J3,rv,ev,q3⟩:=J.after hq
  subst ev
  exact ⟨rv,V.ref (s.heap.objs.size+1),H',J3,rfl,q3⟩
 | .ok .next,hq=>exact hq.elim
 | .ok .brk,hq=>exact hq.elim
 | .ok .cont,hq=>exact hq.elim
theorem ac3 [bT G X] (g:Good G (k+1) X) (F:QZ X.prog X.w X.K X.mg X.base k f fd ps (spI G M (n+1+dxs.length) (dot c "__init__"))) (mk:Mk X.K (G.cl c) f) (hg:Gl X x) (hm:X.mg x=some (.ref (G.cl c))) (hb:KBn X.K fd ps (n+1) [] (fun us ws=>us++ws++mv) (fun vs zs=>vs++zs++dvs)) (hc:Az G dxs dvs) (tk:L2N.Takes X W)
  (ha:PA X (e::es) (tA G M W cU)) (hn:cU.len=n) (sX:(x==("__debug__":Str))=false:=by decide) (he:starEach (e::es) X.env=(false,eval e X.env)::starEach es X.env:=by rfl) (jt:(backTo pos (starEach es X.env)).any (·.1)=false:=by rfl) :
  PE X (.Call (.Name x p) (e::es) [] pos) (tF G M W (.new c (cU.app dxs))):=by
 refine ⟨fun pins s σ H Q I h0=> ?_⟩
 have afI:cU.cat .nil=cU:=by
  have:∀ c:Es,c.cat .nil=c:=fun c=>by
   induction c using Es.rec (motive_1:=fun _=>True) (motive_2:=fun _=>True) (motive_3:=fun _=>True) (motive_5:=fun _=>True)<;>first | trivial | rfl | (simp only [Es.cat];rename_i ih;rw [ih])
  exact this cU
 obtain ⟨ρ,η,S,s0,r,h⟩:=ZL (ks:=[]) (kes:=.nil) hn rfl (by rw [afI];exact h0)
 refine wpAny_Call_Name_kw (ld_glob I hg hm ?_ sX)
 refine PySem.W.callWith_K (h₀:=X.base) I.ok.mod.kin mk.kp (thn (ha.run pos pins s σ H (fun vs H1=>∃ xs ρ1 S1,Step ρ H ρ1 H1∧bf G ρ1 H1 S1∧au G ρ1 H1 xs vs∧xs.length=n∧PR G W σ ρ1 H1 (evs M .nil η S1) fun ρ2 H2 ys S2=>ys.length=0∧
  PR G W σ ρ2 H2 (Cj S2 (M.cal (dot c "__init__") (.ref S2.length::(xs++ys++dxs)) (S2++[.ins c [] []]))) (Cd G H Q)) I ⟨ρ,η,S,s0,r,h.mono fun ρ1 H1 xs S1 bU s1 h1 vs hv=>⟨xs,ρ1,S1,bU,s1,hv,h1⟩⟩) fun us s1 ⟨vs,H1,I1,rv,xs,ρ1,S1,bU,sm1,hv,hl,hp⟩=>⟨I1.kIn,?_⟩) he jt
 simp only [evs] at hp
 obtain ⟨_,zG⟩:=hp.here sm1
 rw [List.append_nil] at zG
 refine ab7 (ks:=[]) (ws:=[]) (zs:=[]) mk F g.rm g.Mf hb tk I1 rv .nil (by rw [← hv.length];exact hl) rfl fun y dx hy Zj ne=> ?_
 rw [List.append_nil]
 exact Ue s0 bU sm1 hy Zj ne (hv.append (hc _ _)) (by simp only [List.length_append];omega) zG
end
section
variable {P:Program} {w:World} {K:PySem.W.Frag} {mg:Str→Option Value} {base:Heap} {G:bB} {M:aF} {W:WX} {X:Cx} {k n:Nat} {x q c m:Str} {a b e:Expr} {es:List Expr} {ca cb:E} {cU cs kes:Es} {p pos cH:Pos} {dxs:List Vl} {ks:List Str} {kws:List Keyword}
structure aar (P:Program) (w:World) (K:PySem.W.Frag) (mg:Str→Option Value) (base:Heap) (G:bB) (M:aF) (k:Nat) (x q:Str) (n:Nat):Prop where
 ex:∃ (f:Addr) (fd:FuncData) (ps:List Str),QZ P w K mg base k f fd ps (spI G M n q)∧mg x=some (.ref f)∧PySem.W.keepIn K (.ref f)=true∧Binds K fd ps []
structure abr (P:Program) (w:World) (K:PySem.W.Frag) (mg:Str→Option Value) (base:Heap) (G:bB) (M:aF) (k:Nat) (x c:Str) (n:Nat) (ks:List Str) (dxs:List Vl):Prop where
 ex:∃ (f:Addr) (fd:FuncData) (ps:List Str) (mv:List Value) (dvs:List V),QZ P w K mg base k f fd ps (spI G M (n+1+ks.length+dxs.length) (dot c "__init__"))∧Mk K (G.cl c) f∧mg x=some (.ref (G.cl c))∧KBn K fd ps (n+1) ks (fun us ws=>us++ws++mv) (fun vs zs=>vs++zs++dvs)∧Az G dxs dvs
theorem aar.toG (c:aar P w K mg base G M k x q n):Cal P w K mg base G M k x q n:=let ⟨f,fd,ps,F,r⟩:=c.ex;⟨f,fd,ps,F.toG,r⟩
theorem abr.toG (c:abr P w K mg base G M k x q n ks dxs):Mak P w K mg base G M k x q n ks dxs:=let ⟨f,fd,ps,mv,dvs,F,r⟩:=c.ex;⟨f,fd,ps,mv,dvs,F.toG,r⟩
theorem cvN [bT G X] (g:Good G (k+1) X) (c:aar X.prog X.w X.K X.mg X.base G M k x q n) (tk:L2N.Takes X W) (ha:PA X (e::es) (tA G M W cU)) (hn:cU.len=n:=by rfl) (hg:Gl X x:=by rfl) (sX:(x==("__debug__":Str))=false:=by decide) (he:starEach (e::es) X.env=(false,eval e X.env)::starEach es X.env:=by rfl) (jt:(backTo pos (starEach es X.env)).any (·.1)=false:=by rfl):PE X (.Call (.Name x p) (e::es) [] pos) (tE G M W (.call q cU)):=by
 obtain ⟨f,fd,ps,F,hm,hk,hb⟩:=c.ex
 refine (Xo g F hg hm hk (dxs:=[]) (dvs:=[]) hb .nil (fun _ _=>au.nil) tk ha sX he jt).imp fun σ H Q h=>CN (fun η S xs S1 h=> ?_) (by rw [Es.oN];exact h)
 rw [mO _ _ _ _ _ h,hn];rfl
theorem nwN [bT G X] (g:Good G (k+1) X) (cm:abr X.prog X.w X.K X.mg X.base G M k x c n [] dxs) (tk:L2N.Takes X W) (ha:PA X (e::es) (tA G M W cU)) (hn:cU.len=n:=by rfl) (hcs:cs=cU.app dxs:=by simp only [Es.app,Es.cat]<;>rfl) (hg:Gl X x:=by rfl) (sX:(x==("__debug__":Str))=false:=by decide) (he:starEach (e::es) X.env=(false,eval e X.env)::starEach es X.env:=by rfl) (jt:(backTo pos (starEach es X.env)).any (·.1)=false:=by rfl):PE X (.Call (.Name x p) (e::es) [] pos) (tF G M W (.new c cs)):=by
 obtain ⟨f,fd,ps,mv,dvs,F,mk,hm,hb,hc⟩:=cm.ex
 subst hcs
 exact ac3 g F mk hg hm hb hc tk ha hn sX he jt
end
section
variable {G:bB} {P:Program} {w:World} {mg:Str→Option Value} {base:Heap} {K:PySem.W.Frag}
theorem ajW {k:Nat} {f:Addr} {x bA q:Str} {params:Arguments} {body:List Stmt} {scope:Scope} {dvs:List V} {kws:List (Str × V)} {fd:FuncData} {N ps:List Str} {M M':aF} {d:jU} (F:FunD K x bA params body scope dvs kws f fd) (Sc:FnScope N ps scope)
  (hM:∀ xs S,M.cal q xs S=gK M' d xs S) (Rp:d.np=ps.length) (NK:d.nn=N.length)
  (pO:∀ (cI:Value) (A:Around) (outer:List Env) (s:Shared) (H:Hp) (E:XK),Room k (A.deeper (envOfC bA scope s.heap.objs.size f cI))→A.guards=some []→PSs (cxOf (L2N.CX P w) P w K mg base N bA scope f cI A outer s H E) body (vL G M' (fun cls d _ H'=>E cls d H') d.body)) :
  QZ P w K mg base (k+1) f fd ps (spI G M d.np q):=by
 obtain ⟨oc,od,dV,kV,wW,pm,an,cI,ct,XX,rfl,lk,Ab,_,_⟩:=F.ex
 refine ⟨fun vs H Q E h=>h.1.trans Rp,fun A outer s H args us vs Q E hr hgd e0 hb r Cp=> ?_⟩
 obtain ⟨BK,ρ,S,xs,sim,hxs,hp⟩:=Cp
 rw [hM] at hp
 have pl:vs.length=ps.length:=BK.trans Rp
 have tR:K.In s.heap:=e0.mod.kin.keeps fun b o e=>(e0.bs b o e).1
 have DG:s.heap.NoLimit:=e0.mod.nolimit.keeps fun b o e=>(e0.bs b o e).1
 refine codeAny_call_function hr.depth (tR _ _ lk) rfl Sc.co Sc.gen rfl (PySem.W.codeRec_of tR Ab) (hb _ _ _ _ (wpAny_newFunctionEnv_cells Sc.kind (fun ⟨n,v⟩ hy=>(Sc.par n (List.of_mem_zip hy).1).imp id fun z=>⟨z,PySem.W.cellsFrom_some _ _ _ (.inl z)⟩) fun env he s1 x=> ?_))
 subst he
 refine ⟨DG.keeps x.toInCall.keep,codeAny_func ?_⟩
 have wF:Inv (cxOf (L2N.CX P w) P w K mg base N bA scope f cI A outer s H E) [] (L2.start N vs) H s1:=inv_start Sc hr.hd e0 pl r x
 have RL:=(pO cI A outer s H E (hr.deeper _) hgd).run [] s1 (L2.start N vs) H { nx:=fun _ H'=>Q .non H',rt:=Q } wF ⟨ρ,_,S,sim,G6 NK hxs,R4 sim (hxs.length.trans BK) hp⟩
 refine wpAny_mono RL (fun fl s' hs=> ?_) fun _ _ z=>z
 cases fl with
 | ret u=>obtain ⟨v,σ',H',J,rv,z⟩:=hs;exact ⟨v,H',J.os,J.bare,J.base,J.hok,rv,z⟩
 | next=>obtain ⟨σ',H',J,z⟩:=hs;exact ⟨.non,H',J.os,J.bare,J.base,J.hok,rfl,z⟩
 | brk=>obtain ⟨_,_,_,z⟩:=hs;exact z.elim
 | cont=>obtain ⟨_,_,_,z⟩:=hs;exact z.elim
theorem abX {k:Nat} {f:Addr} {bA:Str} {scope:Scope} {N ps:List Str} {cI:Value} {A:Around} {outer:List Env} {s:Shared} {H:Hp} {E:XK} (Sc:FnScope N ps scope) (hr:Room k (A.deeper (envOfC bA scope s.heap.objs.size f cI))) (hg:A.guards=some []) (hge:G.er=none):Good G k (cxOf (L2N.CX P w) P w G.K mg base N bA scope f cI A outer s H E):=⟨rfl,Sc.nd,⟨hr.dp,hr.un⟩,hg,fun e h=>by rw [hge] at h;cases h⟩
theorem abj {k:Nat} {f:Addr} {bA:Str} {scope:Scope} {N:List Str} {cI:Value} {A:Around} {outer:List Env} {s:Shared} {H:Hp} {E:XK} (hr:Room k (A.deeper (envOfC bA scope s.heap.objs.size f cI))) (hge:G.er=none):bT G (cxOf (L2N.CX P w) P w G.K mg base N bA scope f cI A outer s H E):=⟨rfl,hr.hd,hge⟩
theorem aak (hge:G.er=none) {k:Nat} {f:Addr} {x bA q:Str} {params:Arguments} {body:List Stmt} {scope:Scope} {dvs:List V} {kws:List (Str × V)} {fd:FuncData} {N ps:List Str} {M M':aF} {d:jU} (F:FunD G.K x bA params body scope dvs kws f fd) (Sc:FnScope N ps scope)
  (hM:∀ xs S,M.cal q xs S=gK M' d xs S) (Rp:d.np=ps.length) (NK:d.nn=N.length)
  (pO:∀ (cI:Value) (A:Around) (outer:List Env) (s:Shared) (H:Hp) (E:XK) [bT G (cxOf (L2N.CX P w) P w G.K mg base N bA scope f cI A outer s H E)],Good G k (cxOf (L2N.CX P w) P w G.K mg base N bA scope f cI A outer s H E)→
   PassesOwn (model (cxOf (L2N.CX P w) P w G.K mg base N bA scope f cI A outer s H E).prog (cxOf (L2N.CX P w) P w G.K mg base N bA scope f cI A outer s H E).w) (cxOf (L2N.CX P w) P w G.K mg base N bA scope f cI A outer s H E).A (cxOf (L2N.CX P w) P w G.K mg base N bA scope f cI A outer s H E).env (cxOf (L2N.CX P w) P w G.K mg base N bA scope f cI A outer s H E).xe→
   L2N.Takes (cxOf (L2N.CX P w) P w G.K mg base N bA scope f cI A outer s H E) (fun cls d _ H'=>E cls d H')→PSs (cxOf (L2N.CX P w) P w G.K mg base N bA scope f cI A outer s H E) body (vL G M' (fun cls d _ H'=>E cls d H') d.body)) :
  QZ P w G.K mg base (k+1) f fd ps (spI G M d.np q):=
 ajW F Sc hM Rp NK fun cI A outer s H E hr hg=>haveI:=abj (G:=G) (P:=P) (w:=w) (mg:=mg) (base:=base) (N:=N) (outer:=outer) (H:=H) (E:=E) hr hge;pO cI A outer s H E (abX Sc hr hg hge) (L2.passes_of rfl) (L2N.takes_of rfl rfl rfl rfl)
theorem Wx {K:PySem.W.Frag} {k n:Nat} {f:Addr} {fd:FuncData} {ps:List Str} {M:aF} {q:Str} (hn:n=ps.length) (hM:∀ xs S,M.cal q xs S=.bad):QZ P w K mg base k f fd ps (spI G M n q):=
 ⟨fun vs H Q E h=>h.1.trans hn,fun A outer s H args us vs Q E hr hgd e0 hb r Cp=>by
  obtain ⟨_,ρ,S,xs,_,_,hp⟩:=Cp
  rw [hM] at hp
  exact hp.elim⟩
end
section
variable {P:Program} {w:World} {K:PySem.W.Frag} {mg:Str→Option Value} {base h:Heap} {G:bB} {nm ql c q x:Str} {st:Stmt} {ps N:List Str} {M M':aF} {d:jU} {n m k:Nat} {C:Addr}
abbrev PrQ (P:Program) (w:World) (mg:Str→Option Value) (base:Heap) (G:bB) (k:Nat) (M:aF) (m:Nat) (q nm ql:Str) (st:Stmt) (ps:List Str):Prop:=
 ∀ (f:Addr) (fd:FuncData),FunD G.K nm ql (defArgs st) (defBody st) (defScope st) [] [] f fd→QZ P w G.K mg base k f fd ps (spI G M m q)
abbrev BdQ (P:Program) (w:World) (mg:Str→Option Value) (base:Heap) (G:bB) (N:List Str) (ql:Str) (st:Stmt) (M':aF) (n:Nat) (b:Cs):Prop:=
 ∀ (f:Addr) (cI:Value) (A:Around) (outer:List Env) (s:Shared) (H:Hp) (E:XK) [bT G (cxOf (L2N.CX P w) P w G.K mg base N ql (defScope st) f cI A outer s H E)],
  Good G (4* n+1) (cxOf (L2N.CX P w) P w G.K mg base N ql (defScope st) f cI A outer s H E)→Good G (4* n+3) (cxOf (L2N.CX P w) P w G.K mg base N ql (defScope st) f cI A outer s H E)→
  PassesOwn (model (cxOf (L2N.CX P w) P w G.K mg base N ql (defScope st) f cI A outer s H E).prog (cxOf (L2N.CX P w) P w G.K mg base N ql (defScope st) f cI A outer s H E).w) (cxOf (L2N.CX P w) P w G.K mg base N ql (defScope st) f cI A outer s H E).A (cxOf (L2N.CX P w) P w G.K mg base N ql (defScope st) f cI A outer s H E).env (cxOf (L2N.CX P w) P w G.K mg base N ql (defScope st) f cI A outer s H E).xe→
  L2N.Takes (cxOf (L2N.CX P w) P w G.K mg base N ql (defScope st) f cI A outer s H E) (fun cls d _ H'=>E cls d H')→
  PSs (cxOf (L2N.CX P w) P w G.K mg base N ql (defScope st) f cI A outer s H E) (defBody st) (vL G M' (fun cls d _ H'=>E cls d H') b)
theorem z0N (hn:m=ps.length:=by rfl) (hM:∀ xs S,M.cal q xs S=.bad:=by exact fun _ _=>rfl):PrQ P w mg base G k M m q nm ql st ps:=fun _ _ _=>Wx hn hM
theorem o1N (he:G.er=none) (N:List Str) (hM:∀ xs S,M.cal q xs S=gK M' d xs S) (hb:BdQ P w mg base G N ql st M' n d.body)
  (Sc:FnScope N ps (defScope st):=by exact scp (by decide+kernel)) (Rp:d.np=ps.length:=by rfl) (NK:d.nn=N.length:=by rfl):PrQ P w mg base G (4* n+4) M d.np q nm ql st ps:=fun f fd F=>
 aak he (k:=4* n+3) F Sc hM Rp NK fun cI A outer s H E _ g3 hp tk=>hb f cI A outer s H E (g3.le (by omega)) g3 hp tk
theorem cCN (F:FP G mg nm st ps) (h:PrQ P w mg base G k M m nm nm nm st ps):aar P w G.K mg base G M k nm nm m:=by
 obtain ⟨f,fd,F,hm,hb⟩:=F.ex
 exact ⟨f,fd,ps,h f fd F,hm,F.kp,hb⟩
abbrev Wq (P:Program) (w:World) (mg:Str→Option Value) (base:Heap) (G:bB) (M:aF) (k:Nat) (x:Str) (n:Nat):Prop:=aar P w G.K mg base G M k x x n
end
end Oz
namespace Oz
open PySem PySem.Spec L2 PyProof.Rows
abbrev Dz (X:Cx) (W:WX):Prop:=∀ (pins:List (Addr × Obj)) (σ:L2.St) (H:Hp) (s:Shared) (e:Value) (s':Shared),Inv X pins σ H s→L2.CX X.prog X.w X.stack H s (fun c d H'=>W c d σ H') e s'→X.xe e s'
section
variable {G:bB} {k n:Nat} {X:Cx} {M:aF} {W:WX} {f C:Addr} {fd:FuncData} {ps:List Str} {sp:Sp} {dvs:List V} {ds:List Value} {q x m c:Str} {a e:Expr} {es:List Expr} {ca:E} {cU cs:Es} {p pos cH:Pos} {mv:List Value} {ks:List Str} {dxs:List Vl}
theorem agb {pins:List (Addr × Obj)} {σ:L2.St} {H:Hp} {s:Shared} {Q:VK} {us:List Value} {vs:List V} (F:qu X.prog X.w X.K X.mg X.base k f fd ps sp) (hr:Room k X.A) (hg:X.A.guards=some []) (hb:Binds X.K fd ps ds) (hd:Vals dvs ds) (tk:Dz X W)
  (I:Inv X pins σ H s) (r:Vals vs us) (h:sp (vs++dvs) H Q (fun c d H'=>W c d σ H')):wpAny (model X.prog X.w) X.A (call (.ref f) us) (EP X pins σ Q) X.xe s:=by
 have rr:=r.append hd
 have len:(us++ds).length=ps.length:=rr.length.symm.trans (F.len _ _ _ _ h)
 refine wpAny_call (codeAny_mono (F.run X.A X.stack s H ⟨us,[]⟩ (us++ds) (vs++dvs) Q _ hr hg I.env0 (hb s us I.kIn len) rr h) ?_)
 intro r' s' hq
 match r',hq with
 | .error e,hq=>exact tk _ _ _ _ _ _ I hq
 | .ok (.ret u),hq=>exact I.after hq
 | .ok .next,hq=>exact hq.elim
 | .ok .brk,hq=>exact hq.elim
 | .ok .cont,hq=>exact hq.elim
theorem X7 [bT G X] (g:Good G (k+1) X) (F:qu X.prog X.w X.K X.mg X.base k f fd ps (spI G M n q)) (hg:Gl X x) (hm:X.mg x=some (.ref f)) (hk:PySem.W.keepIn X.K (.ref f)=true) {dxs:List Vl} {dvs:List V} (hb:Binds X.K fd ps ds) (hd:Vals dvs ds) (hc:Az G dxs dvs) (tk:Dz X W)
  (ha:PA X (e::es) (tA G M W cU)) (sX:(x==("__debug__":Str))=false:=by decide) (he:starEach (e::es) X.env=(false,eval e X.env)::starEach es X.env:=by rfl) (jt:(backTo pos (starEach es X.env)).any (·.1)=false:=by rfl) :
  PE X (.Call (.Name x p) (e::es) [] pos) (tCl X k n G M q W cU dxs):=by
 refine ⟨fun pins s σ H Q I ⟨ρ,η,S,s0,r,h⟩=> ?_⟩
 have hr:Room k X.A:=g.rm.mono (Nat.le_succ _)
 refine wpAny_Call_Name_kw (ld_glob I hg hm ?_ sX)
 refine PySem.W.callWith_K (h₀:=X.base) I.ok.mod.kin hk (thn (ha.run pos pins s σ H (fun vs H1=>∃ xs ρ1 S1,Step ρ H ρ1 H1∧bf G ρ1 H1 S1∧au G ρ1 H1 xs vs∧xs.length+dxs.length=n∧PR G W σ ρ1 H1 (M.cal q (xs++dxs) S1) (okR G H1 Q)) I ⟨ρ,η,S,s0,r,h.mono fun ρ1 H1 xs S1 bU s1 hl vs hv=>⟨xs,ρ1,S1,bU,s1,hv,hl⟩⟩) fun us s1 ⟨vs,H1,I1,rv,xs,ρ1,S1,bU,sm1,hv,hl,hp⟩=>⟨I1.kIn,?_⟩) he jt
 refine agb F hr g.Mf hb hd tk I1 rv ⟨?_,ρ1,S1,xs++dxs,sm1,hv.append (hc _ _),PR.vJ hp⟩
 rw [List.length_append,← hv.length,← (hc ρ1 H1).length];exact hl
theorem cvC [bT G X] (g:Good G (k+1) X) (c:Cal X.prog X.w X.K X.mg X.base G M k x q n) (tk:Dz X W) (ha:PA X (e::es) (tA G M W cU)) (hn:cU.len=n:=by rfl) (hg:Gl X x:=by rfl) (sX:(x==("__debug__":Str))=false:=by decide) (he:starEach (e::es) X.env=(false,eval e X.env)::starEach es X.env:=by rfl) (jt:(backTo pos (starEach es X.env)).any (·.1)=false:=by rfl):PE X (.Call (.Name x p) (e::es) [] pos) (tE G M W (.call q cU)):=by
 obtain ⟨f,fd,ps,F,hm,hk,hb⟩:=c.ex
 refine (X7 g F hg hm hk (dxs:=[]) (dvs:=[]) hb .nil (fun _ _=>au.nil) tk ha sX he jt).imp fun σ H Q h=>CN (fun η S xs S1 h=> ?_) (by rw [Es.oN];exact h)
 rw [mO _ _ _ _ _ h,hn];rfl
end
abbrev Ja (X:Cx) (s:Shared) (H:Hp) (scope:Scope) (ce:Env) (fp:List Addr) (E:XK):Cx:={ X.blk s H scope ce fp with xe:=fun e s'=>∃ pins σ H1 s1,Inv (X.blk s H scope ce fp) pins σ H1 s1∧L2.CX X.prog X.w X.stack H1 s1 E e s' }
section
variable {X:Cx}
theorem Y4 {s:Shared} {H:Hp} {scope:Scope} {ce:Env} {fp:List Addr} {E:XK}:Dz (Ja X s H scope ce fp E) (fun c d _ H'=>E c d H'):=fun pins σ H1 s1 e s' I h=>⟨pins,σ,H1,s1,Inv.unwish (X:=X.blk s H scope ce fp) (E:=(Ja X s H scope ce fp E).xe) I,h⟩
theorem Bv {B B' h:Heap} (k:∀ b,B.get? b=none→B'.get? b=none):∀ {l:List Env},h.FunFrames B l→h.FunFrames B' l
 | [],_=>trivial
 | _::_,⟨a,⟨L,o,b,c,d⟩,r⟩=>⟨a,⟨L,o,b,k _ c,d⟩,Bv k r⟩
theorem Ye {W:WX} {E:XK} {pins pn:List (Addr × Obj)} {σ σ8:L2.St} {H3 H8:Hp} {s3 s8 s':Shared} {scope:Scope} {ce:Env} {fp:List Addr} {e:Value} (hs:X.stack=X.env::X.outer) (hf:X.env.frame=some X.env.locals) (tk:Takes X W) (hW:∀ c d H',E c d H'→W c d σ H')
  (cL:ce.locals=s3.heap.objs.size) (cf:ce.frame=X.env.frame) (I3:Inv X pins σ H3 s3) (f3:∀ b∈fp,FpOk X pins H3 b∧b<s3.heap.objs.size) (Ib:Inv (X.blk s3 H3 scope ce fp) pn σ8 H8 s8) (c:L2.CX X.prog X.w X.stack H8 s8 E e s') :
  notedBy (model X.prog X.w) X.A ce (CompFails (model X.prog X.w) X.A X.xe ce) e s':=by
 have IX:Inv X pins σ H8 s8:=I3.call' (ch:=fp) Ib.os Ib.base Ib.hok Ib.bare fun b hb=>⟨(f3 b hb).1.2.2.2.1,(f3 b hb).1.2.1,(f3 b hb).1.2.2.2.2.1,(f3 b hb).1.2.2.2.2.2⟩
 have nC8:H8 ce.locals=none:=Ib.free
 obtain ⟨mC,hnC,_⟩:=Ib.loc
 have hnC:s8.heap.Ns ce.locals mC:=hnC
 obtain ⟨oC,esC,epC,hoC,hdC,hrC⟩:=id hnC
 have fpC:FpOk X pins H3 ce.locals:=I3.fpOk (by rw [cL];exact Nat.le_refl _) (by rw [cL];exact I3.hok.fresh (Nat.le_refl _))
 have nFr:ce.locals∉frs X.stack:=fun z=>(List.mem_cons.mp (IX.stkSub _ z)).elim fpC.2.1 fpC.2.2.1
 have c0:=c
 obtain ⟨a,B,H',cls,d,rfl,fl,hok,ub,na,os,ag,hE⟩:=c0
 have hBC:B.get? ce.locals=some oC:=ub.keep _ _ hoC nC8 nFr
 have nC':H' ce.locals=none:=ub.free _ _ hoC nC8
 have nsS:s'.heap.Ns ce.locals mC:=⟨oC,esC,epC,fl.1 _ _ hBC,hdC,hrC⟩
 -- the ground without the block's names
 obtain ⟨B',b1,b2⟩:=restrict B fun b=>decide (b≠ce.locals)
 have agC:∀ b o,B'.get? b=some o→B.get? b=some o∧b≠ce.locals:=fun b o z=>by
  by_cases hb:b=ce.locals
  ·rw [b2 b (by simp [hb])] at z;cases z
  ·rw [b1 b (by simp [hb])] at z;exact ⟨z,hb⟩
 have acb:∀ b,B.get? b=none→B'.get? b=none:=fun b z=>by
  cases y:B'.get? b with
  | none=>rfl
  | some o=>rw [(agC b o y).1] at z;cases z
 have anB:B'.get? ce.locals=none:=b2 _ (by simp)
 have agh:∀ {h:Heap} {fv:Value},HandSPX.TracedZ h B a (Zc cls d) fv→HandSPX.TracedZ h B' a (Zc cls d) fv:=fun ⟨oe,vs,T,oT,ts,x1,x2,x3,x4,x5,x6⟩=>⟨oe,vs,T,oT,ts,x1,x2,x3,x4,acb _ x5,x6⟩
 have fl':HandSPX.FlyingZ B' X.stack a (Zc cls d) s'.heap:=⟨fun b o z=>fl.1 b o (agC b o z).1,acb _ fl.2.1,Bv acb fl.2.2.1,agh fl.2.2.2⟩
 have st:B.StaysIn s'.heap:=fl.1
 -- the state without the error and without the block's names
 obtain ⟨G0,g1,g2⟩:=restrict s'.heap fun b=>(B.get? b).isSome || decide (b∈frs X.stack)
 obtain ⟨G1,q1,q2⟩:=restrict G0 fun b=>decide (b≠ce.locals)
 have gB:∀ b o,B.get? b=some o→G0.get? b=some o:=fun b o z=>by rw [g1 b (by simp [z])];exact st b o z
 have gF:∀ b,b∈frs X.stack→G0.get? b=s'.heap.get? b:=fun b hb=>g1 b (by simp [hb])
 have og0:∀ b o,G0.get? b=some o→s'.heap.get? b=some o∧((B.get? b).isSome=true∨b∈frs X.stack):=fun b o z=>by
  cases y:((B.get? b).isSome || decide (b∈frs X.stack)) with
  | false=>rw [g2 b y] at z;cases z
  | true=>
   rw [g1 b y] at z
   refine ⟨z,?_⟩
   simpa only [Bool.or_eq_true,decide_eq_true_eq] using y
 have og1:∀ b o,G1.get? b=some o→G0.get? b=some o∧b≠ce.locals:=fun b o z=>by
  by_cases hb:b=ce.locals
  ·rw [q2 b (by simp [hb])] at z;cases z
  ·rw [q1 b (by simp [hb])] at z;exact ⟨z,hb⟩
 have J0:Inv X pins σ H' { s8 with heap:=G0,gens:=s'.gens,drawn:=s'.drawn,toks:=s'.toks }:=by
  refine IX.call (ch:=[]) ⟨fun b o z n hb _=>gB b o (ub.keep b o z n hb),fun b o z n hb _=> ?_,fun b o z n _=>ub.free b o z n,fun b o z _=> ?_,ub.tups,ub.frzs,ub.tbls⟩ (hok.kept gB) ag (fun _ z=>nomatch z)
  ·obtain ⟨sl,y⟩:=ub.slot b o z hb
   exact ⟨sl,by rw [gF b hb];exact y⟩
  ·by_cases hb:b∈frs X.stack
   ·obtain ⟨sl,y⟩:=ub.slot b o z hb
    exact ⟨_,by rw [gF b hb];exact y⟩
   ·obtain ⟨o',y⟩:=ub.there b o z hb
    exact ⟨o',gB b o' y⟩
 have J1:Inv X pins σ H' { s8 with heap:=G1,gens:=s'.gens,drawn:=s'.drawn,toks:=s'.toks }:=J0.turned (t':=s'.toks) (fun b o hb z=>by rw [q1 b (by simp [hb])];exact z) nC' fpC.2.1 fpC.2.2.2.1 fpC.2.2.2.2.1 fpC.2.2.2.2.2
 have hfr:X.A.frames=some (X.env::X.outer):=by rw [IX.ok.frames,hs]
 show wpAny (model X.prog X.w) X.A (noteFrame (.ref a) ce) _ _ s'
 rw [noteFrame_env _ cf]
 refine HandSPX.looks_onZ Zc.steady hfr hf (by rw [hs] at fl';exact fl') fun h1 held1 up1=> ?_
 obtain ⟨k1,k2,k3,oe,vs,T,oT,ts,he,hz,hd,hv1,hnT,hTe,hT,hdT,hv3⟩:=id held1
 have ns1:h1.Ns ce.locals mC:=nsS.upToSlots up1
 obtain ⟨o1,es1,ep1,ho1,hd1,_⟩:=id ns1
 have aC:a≠ce.locals:=fun z=>by
  rw [z,ho1] at he;cases he
  rw [hd1] at hd;cases hd
 have TC:T≠ce.locals:=fun z=>by
  rw [z,ho1] at hT;cases hT
  rw [hd1] at hdT;cases hdT
 refine ⟨mC,ns1,fun h2 m2 hn2 sb=> ?_⟩
 have he2:h2.get? a=some oe:=(sb.2 a aC).trans he
 have tr2:HandSPX.TracedZ h2 B' a (Zc cls d) (rawInt X.env.locals):=⟨oe,vs,T,oT,ts,he2,hz,hd,hv1,hnT,hTe,(sb.2 T TC).trans hT,hdT,hv3⟩
 unfold PySem.passOn
 refine wpAny_bind (wpAny_field (s:={ s' with heap:=h2 }) he2 hd hv1 ?_)
 rw [if_neg (show ¬ ((Value.ref T==Value.none)=true) from by simp)]
 rw [show ce.frame=some X.env.locals from cf.trans hf]
 have fin:wpAny (model X.prog X.w) X.A (setFlight (.ref a) (some X.env.locals)) (fun _ s4=>wpAny (model X.prog X.w) X.A (throw (.ref a):Sem Value) (fun _ _=>False) X.xe s4) X.xe { s' with heap:=h2 }:=by
  refine HandSPX.setFlight_anyZ (s:={ s' with heap:=h2 }) (base:=B') (l:=X.stack) (fun b o z=>(sb.2 b (agC b o z).2).trans (k1 b o z)) (by rw [hs];exact Heap.FunFrames.sameBut sb hn2 k3) tr2 fun h3 w1 w2 w3 up3=>wpAny_throw (tk _ _ ?_)
  refine ⟨a,B',_,pins,σ,H',cls,d,rfl,J1,fun b o z hb=> ?_,fun b o z nf=> ?_,.inr (.inr ⟨w1,k2,w2,w3⟩),na,os,ag,hW _ _ _ hE⟩
  ·obtain ⟨z1,nz⟩:=og1 b o z
   rcases (og0 b o z1).2 with y | y
   ·obtain ⟨o',y'⟩:=Option.isSome_iff_exists.mp y
    have:=st b o' y'
    rw [(og0 b o z1).1] at this;cases this
    rw [b1 b (by simp [nz])];exact y'
   ·exact absurd y hb
  ·obtain ⟨z1,nz⟩:=og1 b o z
   obtain ⟨sl1,y1⟩:=up1 b o (og0 b o z1).1 nf
   have y2:h2.get? b=some { o with slots:=sl1 }:=(sb.2 b nz).trans y1
   obtain ⟨sl2,y3⟩:=up3 b _ y2 nf
   exact ⟨sl2,y3⟩
 first
  | exact wpAny_bind (wpAny_pure (wpAny_bind fin))
  | exact wpAny_bind fin
end
section
variable {X:Cx}
theorem agk {W:WX} {jr tg iter:Expr} {lM:List Expr} {scope:Scope} {own:List (Str × Nat)} {pos:Pos} {wi:TI} {g:TG} {tt:TT} {teE:XK→TE} (Rq:X.stack=X.env::X.outer) (hfm:X.env.frame=some X.env.locals) (tk:Takes X W) (hc:X.calm=true) (hN:X.N.Nodup) (hi:PI X tg iter wi) (ok:BlkOk X.N X.env.scope scope own)
  (hg:∀ (s:Shared) (H:Hp) (C:Addr) (cl:List (Str × Addr)) (fp:List Addr),PG (X.blk s H scope (compEnvC scope cl C X.env) fp) tg g) (ht:∀ (s:Shared) (H:Hp) (C:Addr) (cl:List (Str × Addr)) (fp:List Addr),PTs (X.blk s H scope (compEnvC scope cl C X.env) fp) lM tt)
  (he:∀ (E:XK) (s:Shared) (H:Hp) (C:Addr) (cl:List (Str × Addr)) (fp:List Addr),PE (Ja X s H scope (compEnvC scope cl C X.env) fp E) jr (teE E)) (hs:∀ x,foldedSetIterable iter X.env x=pure x:=by intro _;rfl) :
  PE X (.ListComp jr [⟨tg,iter,lM,0⟩] scope pos) (fun σ H Q=>tLc wi g tt (teE fun c d H'=>W c d σ H') (own.map (·.2)) σ H Q):=by
 refine ⟨fun pins s σ H Q I h=> ?_⟩
 rw [eval_ListComp]
 have aiC:∀ y∈scope.names,y.2=.free→∃ c,X.env.cells.lookup y.1=some c:=fun y hy e=>by
  rcases ok.free y hy e with k | k
  ·exact I.ok.has _ (.inl k)
  ·exact I.ok.has _ (.inr k)
 refine comprehension_at (use:=none) rfl hs (closure_ok aiC) ok.kind (fun y hy e=>by rw [ok.uniq y hy,e])
  (thn (hi.run pins s σ H _ I h) fun xv s1 hx=>thn hx fun itv s2 h2=> ?_)
 obtain ⟨it,fp,tn,J,H2,e,I2,T,st2,f2,q⟩:=h2
 subst e
 refine wpAny_newObj_type (newEnv_comp ?_) (by show 0≤sizeLine;decide)
 generalize hD:s2.heap.objs.size=D
 have hDn:H2 D=none:=I2.hok.fresh (Nat.le_of_eq hD)
 obtain ⟨Wm,⟨m0,w0⟩,turn⟩:=q D hDn
 -- the new list
 generalize hs3:({ s2 with heap:=s2.heap.push { cls:=.type "list",data:=.seq ([]:List Value).toArray } }:Shared)=s3
 have I3:Inv X pins σ (upd H2 D (.lst [])) s3:=by
  rw [← hs3]
  refine I2.laid (t':=s2.toks) (fun b o e=>Heap.get?_push_of_some _ e) (Nat.le_of_eq hD) ⟨Nat.zero_le _,[],0,.nil,?_⟩
  rw [← hD]
  exact Heap.get?_push_size _ rfl
 have h3:s3.heap=s2.heap.push { cls:=.type "list",data:=.seq ([]:List Value).toArray }:=by rw [← hs3]
 have sz:∀ b∈fp,b<s2.heap.objs.size:=fun b hb=>by
  obtain ⟨o,e,_⟩:=T.obj _ _ st2 b hb
  exact Heap.lt_size e
 have f3:∀ b∈fp,FpOk X pins (upd H2 D (.lst [])) b∧b<s3.heap.objs.size:=fun b hb=>by
  have Ze:=sz b hb
  refine ⟨⟨?_,(f2 b hb).2⟩,by rw [h3,Heap.size_push];exact Nat.lt_succ_of_lt Ze⟩
  rw [upd_ne (by rw [← hD];exact Nat.ne_of_lt Ze)]
  exact (f2 b hb).1
 have lN:tn 0 s3.heap:=T.keep _ _ _ st2 fun b _ o e=>by rw [h3];exact Heap.get?_push_of_some _ e
 have I4:=block_start I3 ok hN f3
 have pg:=hg s3 (upd H2 D (.lst [])) s3.heap.objs.size (cellsFrom (s3.heap.objs.size+1) scope.names (cloFrom X.env.cells scope.names [])) fp
 have pt:=ht s3 (upd H2 D (.lst [])) s3.heap.objs.size (cellsFrom (s3.heap.objs.size+1) scope.names (cloFrom X.env.cells scope.names [])) fp
 have pe:=he (fun c d H'=>W c d σ H') s3 (upd H2 D (.lst [])) s3.heap.objs.size (cellsFrom (s3.heap.objs.size+1) scope.names (cloFrom X.env.cells scope.names [])) fp
 show codeAny _ _ (.compStart (.ListComp jr [⟨tg,iter,lM,0⟩] scope pos) 0 (.ref it) (.ref D) (compEnvC scope (cellsFrom (s3.heap.objs.size+1) scope.names (cloFrom X.env.cells scope.names [])) s3.heap.objs.size X.env)) (compEnds (model X.prog X.w) X.A X.xe none (EP X pins σ Q) (.ref D) (compEnvC scope (cellsFrom (s3.heap.objs.size+1) scope.names (cloFrom X.env.cells scope.names [])) s3.heap.objs.size X.env)) { s3 with heap:=pushCells (s3.heap.push { cls:=.type "dict",data:=.dict #[] }) scope.names }
 have nfp:∀ b∈fp,(upd H2 D (.lst [])) b=none:=fun b hb=>(f3 b hb).1.1
 generalize hce:compEnvC scope (cellsFrom (s3.heap.objs.size+1) scope.names (cloFrom X.env.cells scope.names [])) s3.heap.objs.size X.env=ce at I4 pg pt pe ⊢
 have cL:ce.locals=s3.heap.objs.size:=by subst hce;rfl
 have cF:ce.frame=X.env.frame:=by subst hce;rfl
 generalize hH3:upd H2 D (.lst [])=H3 at I3 I4 pg pt pe w0 nfp f3
 generalize hs4:({ s3 with heap:=pushCells (s3.heap.push { cls:=.type "dict",data:=.dict #[] }) scope.names }:Shared)=s4 at I4 ⊢
 have st4:tn 0 s4.heap:=T.keep _ _ _ lN fun b _ o e=>by rw [← hs4];exact pushCells_keeps _ _ _ _ (Heap.get?_push_of_some _ e)
 have ahH:∀ {σ':L2.St} {H':Hp} {s':Shared},Inv (X.blk s3 H3 scope ce fp) [] σ' H' s'→(∀ b∈fp,H' b=none)→∀ b∈fp,FpOk (X.blk s3 H3 scope ce fp) [] H' b:=fun {σ' H' s'} I' hn b hb=>
  ⟨hn b hb,(I'.ok.exf b hb).1,I'.ok.exfs b hb,.inl hb,fun x c e=>(I'.ok.exf b hb).2 x c e,fun p hp=>absurd (show p∈([]:List (Addr × Obj))++[] from hp) (by simp)⟩
 have loop:codeAny (model X.prog X.w) X.A (.compLoop (.ListComp jr [⟨tg,iter,lM,0⟩] scope pos) 0 (.ref it) (.ref D) ce) (compEnds (model X.prog X.w) X.A X.xe none (EP X pins σ Q) (.ref D) ce) s4:=by
  refine compLoop_any (fun n s'=>∃ i H',Inv (X.blk s3 H3 scope ce fp) [] (wipe σ (own.map (·.2))) H' s'∧tn i s'.heap∧(∀ b∈fp,H' b=none)∧Wm i n H') ?_ m0 ⟨0,H3,I4,st4,nfp,w0⟩
  rintro n s5 ⟨i,H5,I5,st5,n5,w5⟩
  rcases turn i n H5 w5 with ⟨stop,qq⟩ | ⟨go,Nx,hNx,step⟩
  ·have td:=T.done (X.blk s3 H3 scope ce fp) rfl rfl rfl hc i [] s5 _ H5 (fun _ _=>False) I5 (ahH I5 n5) st5 stop
   refine thnF td fun r s6 ⟨hr,I6⟩=> ?_
   subst hr
   -- back in the def's context
   have I7:Inv X pins σ H5 s6:=I3.call' (ch:=fp) I6.os I6.base I6.hok I6.bare fun b hb=>⟨(f3 b hb).1.2.2.2.1,(f3 b hb).1.2.1,(f3 b hb).1.2.2.2.2.1,(f3 b hb).1.2.2.2.2.2⟩
   have nC:H5 s3.heap.objs.size=none:=by
    have z:H5 ce.locals=none:=I6.free
    rw [cL] at z
    exact z
   obtain ⟨m,hn,_⟩:=I6.loc
   have hn:s6.heap.Ns ce.locals m:=hn
   rw [cL] at hn
   obtain ⟨f0,f1,f2,f3,f4,f5⟩:=I3.fpOk (Nat.le_refl _) nC
   refine ⟨m,by rw [cL];exact hn,fun h'' sb=> ?_⟩
   rw [cL] at sb
   exact ⟨.ref D,H5,I7.turned (t':=s6.toks) (fun b o hb e=>(sb.2 b hb).trans e) f0 f1 f3 f4 f5,rfl,qq⟩
  ·have ti:=T.item (X.blk s3 H3 scope ce fp) rfl rfl rfl hc i [] s5 _ H5 (fun _ _=>False) I5 (ahH I5 n5) st5 go
   refine thnF ti fun r s6 ⟨u,hr,h6⟩=> ?_
   subst hr
   refine thnF h6 fun _ s7 ⟨x,H7,I7,r7,y7,st7,n7⟩=> ?_
   have I7':=I7.pinned (ahH I7 n7) (T.obj _ _ st7)
   refine thnF (pg.run _ s7 _ H7 x u _ I7' r7 (step x H7 y7)) fun _ s8 ⟨σ8,H8,I8,hw8,q8⟩=> ?_
   refine thnF (pt.run _ s8 σ8 H8 _ I8 q8) fun b s9 ⟨H9,I9,q9⟩=> ?_
   -- the turn's end
   have fin:∀ {s':Shared} {H':Hp},Inv (X.blk s3 H3 scope ce fp) ([]++pinsAt fp s7.heap) σ8 H' s'→Nx H'→∃ m,m<n∧∃ i H',Inv (X.blk s3 H3 scope ce fp) [] (wipe σ (own.map (·.2))) H' s'∧tn i s'.heap∧(∀ b∈fp,H' b=none)∧Wm i m H':=fun {s' H'} I' nx=>by
    obtain ⟨m',hm,w'⟩:=hNx H' nx
    have aij:∀ b∈fp,∀ o,s7.heap.get? b=some o→s'.heap.get? b=some o∧H' b=none:=fun b hb o e=>
     let z:=I'.pin (b,o) (List.mem_append_right _ (List.mem_append_right _ (mem_pinsAt hb e)))
     ⟨z.1,z.2.1⟩
    have hl:(wipe σ (own.map (·.2))).length=σ8.length:=by rw [← hw8,wipe_length]
    refine ⟨m',hm,i+1,H',(I'.unpinned (pins:=[])).weak hl (fun j v e=> ?_),T.keep _ _ _ st7 fun b hb o e=>(aij b hb o e).1,fun b hb=> ?_,w'⟩
    ·rw [← hw8] at e
     exact (wipe_some e).1
    ·obtain ⟨o,e,_⟩:=T.obj _ _ st7 b hb
     exact (aij b hb o e).2
   cases b with
   | false=>
    simp only [Bool.false_eq_true,if_false] at q9 ⊢
    exact fin I9 q9
   | true=>
    simp only [if_true] at q9 ⊢
    refine wpAny_mono (pe.run _ s9 σ8 H9 _ (I9.wish _) q9) (fun z s10 ⟨yv,H10,I10,r10,aQ,hD10,hz10,nx⟩=> ?_) fun er s10 ⟨pn,σx,Hx,sx,Ix,cx⟩=>Ye Rq hfm tk (fun _ _ _ y=>y) cL cF I3 f3 Ix cx
    have I10:=Inv.unwish (X:=X.blk s3 H3 scope ce fp) (E:=(Ja X s3 H3 scope ce fp fun c d H'=>W c d σ H').xe) I10
    exact app_ok (X:=X.blk s3 H3 scope ce fp) I10 hD10 hz10 r10 fun s11 I11=>fin I11 nx
 exact codeAny_compStart_list loop (T.self X.A 0 _ _ _ st4 loop)
end
section
variable {G:bB} {M:aF} {W:WX} {X:Cx} {k:Nat}
theorem agx {own:List Nat} {ce:E} {t:Tg} {qY:Src} (ht:∀ i∈t.slots,i∈own) (σ:L2.St) (H:Hp) (Q:VK) (h:tF G M W (.V9 own ce t qY) σ H Q):tLc (tS G M W qY) (tG G t) (yc G M WF .nil) (tE G M (fun c d _ H'=>W c d σ H') ce) own σ H Q:=by
 obtain ⟨ρ,η,S,s,r,h⟩:=h
 refine ⟨ρ,η,S,s,r,?_⟩
 simp only [d9] at h
 refine (PR.bind h).mono fun ρ1 H1 p S1 st s1 h1 J jw D hD=> ?_
 obtain ⟨lk,xs⟩:=p
 simp only at h1 jw
 have hD0:H D=none:=none_of s s1 st hD
 have hDn:D∉ρ1:=s1.free hD
 have BK:=s1.len
 -- the start
 have sm:Same H1 (upd H1 D (.lst [])):=fK hD
 have stD:Step ρ1 H1 (ρ1++[D]) (upd H1 D (.lst [])):=(bu sm).one hD
 have SM:bf G (ρ1++[D]) (upd H1 D (.lst [])) (S1++[.lst []]):=s1.new hD ⟨[],upd_same,au.nil⟩
 have rD:(ρ1++[D])[S1.length]? =some D:=by rw [← BK];simp
 generalize Hr:(fun (x:Vl) (S2:Hs)=>match aZ t x (bR η own) with
   | none=>(Res.bad:Res (Option Vl))
   | some η1=>(ev M ce η1 S2).bind fun y S4=>.ok (some y) S4)=step at h1
 refine ⟨fun i m H'=>m=xs.length - i∧i≤xs.length∧∃ aQ,Step ρ1 H1 (ρ1++[D]) H'∧bf G (ρ1++[D]) H' (S1++[.lst aQ])∧PR G W σ ρ1 H1 ((nZ step lk (xs.drop i) aQ S1).bind fun ys S2=>.ok (.lst ys) S2) (Cd G H Q)∧aV S1.length aQ=true,⟨xs.length,by simp,Nat.zero_le _,[],stD,SM,by simpa using h1,by simp [aV]⟩,?_⟩
 rintro i m H' ⟨rfl,hi,aQ,gG,s',h',la⟩
 by_cases hl:i<xs.length
 ·refine .inr ?_
  rw [List.drop_eq_getElem_cons hl] at h'
  simp only [nZ] at h'
  split at h'
  ·rename_i l'
   have l2:cP lk (S1++[.lst aQ]):=fun p hp=>by
    have e:=l' p hp
    rw [List.getElem?_append_left (aJ e)];exact e
   obtain ⟨hgo,hy⟩:=jw.go _ H' _ i xs[i] (Step.x gG) s' l2 (by simp [hl])
   refine ⟨hgo,fun H3=>∃ aQ,Step ρ1 H1 (ρ1++[D]) H3∧bf G (ρ1++[D]) H3 (S1++[.lst aQ])∧PR G W σ ρ1 H1 ((nZ step lk (xs.drop (i+1)) aQ S1).bind fun ys S2=>.ok (.lst ys) S2) (Cd G H Q)∧aV S1.length aQ=true,fun H3 a=>⟨xs.length - (i+1),by omega,rfl,by omega,a⟩,fun v H3 y=> ?_⟩
   obtain ⟨sm3,hv⟩:=hy v H3 y
   have lN:Step (ρ1++[D]) H' (ρ1++[D]) H3:=bu sm3
   have s3:=s'.same sm3
   have Z3:step xs[i] (S1++[.lst aQ])=match aZ t xs[i] (bR η own) with
     | none=>(Res.bad:Res (Option Vl))
     | some η1=>(ev M ce η1 (S1++[.lst aQ])).bind fun y S4=>.ok (some y) S4:=by rw [← Hr]
   cases eb:aZ t xs[i] (bR η own) with
   | none=>rw [Z3,eb] at h';exact h'.elim
   | some η2=>
    rw [Z3,eb] at h'
    simp only at h'
    have er3:ER G (ρ1++[D]) H3 (bR η own) (wipe σ own):=(((r.step st).step gG).step lN).wipe own
    refine ⟨ρ1++[D],S1++[.lst aQ],bR η own,xs[i],η2,s3,er3,hv,eb,fun σ4 of4 r4=>⟨xX of4 ht,ρ1++[D],η2,S1++[.lst aQ],s3,r4,?_⟩⟩
    simp only [dB]
    refine fun ρ5 H5 st5 s5=> ?_
    simp only [if_true]
    refine ⟨ρ5,η2,S1++[.lst aQ],s5,r4.step st5,?_⟩
    cases ev6:ev M ce η2 (S1++[.lst aQ]) with
      | bad=>rw [ev6] at h';exact h'.elim
      | exc x S4=>
       rw [ev6] at h'
       simp only [Res.bind] at h'
       by_cases c7:S4=S1++[.lst aQ]∧x.lim S1.length=true
       ·rw [if_pos c7] at h'
        obtain ⟨rfl,lx⟩:=c7
        refine fun ρ7 H7 st7 s7=> ?_
        have e7:ρ7=ρ1++[D]:=oX (st5.trans st7).pre (by rw [s7.len,← s3.len])
        subst e7
        have st9:=((gG.trans lN).trans st5).trans st7
        have q:XW G W σ ρ1 H7 x:=h' ρ1 H7 ⟨List.prefix_refl _,st9.keep,fun a ha=>.inl ha,st9.fz⟩ (s7.cut BK s1.Ys)
        unfold XW at q ⊢
        unfold Xc.lim at lx
        cases ex:x.fs with
        | none=>rw [ex] at q;exact q
        | some p=>
         obtain ⟨ns,vs⟩:=p
         rw [ex] at q lx
         exact fun d fs a1 a2 a3 a4=>q d fs a1 (fun z=>a2 (List.mem_append_left _ z)) a3 (au.less _ _ a4 (by rw [BK];exact lx))
       ·rw [if_neg c7] at h';exact h'.elim
      | ok y S4=>
       rw [ev6] at h'
       simp only [Res.bind] at h'
       refine fun ρ7 H7 st7 s7 w hw=> ?_
       by_cases c7:S4=S1++[.lst aQ]∧aQ.length<sizeLine
       ·rw [if_pos c7] at h'
        obtain ⟨rfl,hz⟩:=c7
        have e7:ρ7=ρ1++[D]:=oX (st5.trans st7).pre (by rw [s7.len,← s3.len])
        subst e7
        by_cases ly:y.lim S1.length=true
        ·rw [if_pos ly] at h'
         obtain ⟨vs,g1,g2⟩:=s7.at_ S1.length (.lst aQ) D (by simp) rD
         have nf:∀ od u,H7 D≠some (.frz od u):=fun od u z=>by rw [g1] at z;cases z
         have stE:Step (ρ1++[D]) H7 (ρ1++[D]) (upd H7 D (.lst (vs++[w]))):=⟨List.prefix_refl _,fun b o hb hn=>by
          rw [upd_ne fun e=>hn (by subst e;simp)];exact hb,fun b hb=>.inl hb,oU nf⟩
         obtain ⟨st8,s8⟩:=bf.put (ho:=.lst (vs++[w])) (o2:=.lst (aQ++[y])) s7 rD nf ⟨vs++[w],upd_same,au.step stE _ _ (g2.append (au.cons hw au.nil))⟩
         refine ⟨vs,g1,by rw [← g2.length];exact hz,aQ++[y],(((gG.trans lN).trans st5).trans st7).trans st8,by simpa using s8,h',?_⟩
         exact oA la ly
        ·rw [if_neg ly] at h';exact h'.elim
       ·rw [if_neg c7] at h';exact h'.elim
  ·exact h'.elim
 ·have e:i=xs.length:=by omega
  subst e
  rw [List.drop_length] at h'
  simp only [nZ] at h'
  split at h'
  ·rename_i l'
   have l2:cP lk (S1++[.lst aQ]):=fun p hp=>by
    have e:=l' p hp
    rw [List.getElem?_append_left (aJ e)];exact e
   refine .inl ⟨jw.stop _ H' _ (Step.x gG) s' l2,?_⟩
   have sc:bf G ρ1 H' S1:=s'.cut BK s1.Ys
   have Tr:Step ρ1 H1 ρ1 H':=⟨List.prefix_refl _,gG.keep,fun a ha=>.inl ha,gG.fz⟩
   have fin:Cd G H Q ρ1 H' (.lst aQ) S1:=h' ρ1 H' Tr sc
   exact fin D hD0 hDn (OR.less (s'.at_ S1.length (.lst aQ) D (by simp) rD) (by rw [BK];exact la)) s'
  ·exact h'.elim
section
variable {jr tg iter:Expr} {scope:Scope} {own:List (Str × Nat)} {pos:Pos} {ce:E} {t:Tg} {qY:Src}
theorem aaa [bT G X] [ow:Own X] (g:Good G k X) (tk:Takes X W) (yM:∀ i∈t.slots,i∈own.map (·.2)) (hi:PI X tg iter (tS G M W qY)) (ok:BlkOk X.N X.env.scope scope own)
  (hg:∀ (s:Shared) (H:Hp) (C:Addr) (cl:List (Str × Addr)) (fp:List Addr),PG (X.blk s H scope (compEnvC scope cl C X.env) fp) tg (tG G t))
  (he:∀ (E:XK) (s:Shared) (H:Hp) (C:Addr) (cl:List (Str × Addr)) (fp:List Addr),Dz (Ja X s H scope (compEnvC scope cl C X.env) fp E) (fun c d _ H'=>E c d H')→PE (Ja X s H scope (compEnvC scope cl C X.env) fp E) jr (tE G M (fun c d _ H'=>E c d H') ce)) (hs:∀ x,foldedSetIterable iter X.env x=pure x:=by intro _;rfl) :
  PE X (.ListComp jr [⟨tg,iter,[],0⟩] scope pos) (tF G M W (.V9 (own.map (·.2)) ce t qY)):=(agk (teE:=fun E=>tE G M (fun c d _ H'=>E c d H') ce) ow.stk ow.frm tk g.calm g.nd hi ok hg (fun _ _ _ _ _=>gD) (fun E s H C cl fp=>he E s H C cl fp Y4) hs).imp fun σ H Q h=>agx yM σ H Q h
theorem Good.Ja [bT G X] (g:Good G k X) (s:Shared) (H:Hp) (scope:Scope) (ce:Env) (fp:List Addr) (E:XK):Good G k (Ja X s H scope ce fp E):=⟨g.K,g.nd,g.room,g.Mf,fun e h=>by rw [bT.er X] at h;cases h⟩
instance {s:Shared} {H:Hp} {scope:Scope} {ce:Env} {fp:List Addr} {E:XK} [c:bT G X]:bT G (Ja X s H scope ce fp E):=⟨c.calm,c.hd,c.er⟩
end
end
end Oz
namespace Oz
open PySem PySem.Spec L2 PyProof PyProof.Rows
def zb {α:Type}:List (Str × α)→Str→Option α
 | [],_=>none
 | p::l,d=>if d=p.1 then some p.2 else zb l d
def subT (AS:List Str) (T:List (Str × List Str)) (d c:Str):Option Bool:=if c∈AS then (zb T d).map fun l=>decide (c∈l) else none
def akU (T:List (Str × Addr)) (d:Str):Addr:=(zb T d).getD 0
def valT (T:List (Str × Value)) (d:Str):Value:=(zb T d).getD .none
def KA1 (K:PySem.W.Frag) (C:Addr) (v:Value) (b:Bool):Prop:=match v with
 | .ref a=>((C=a∧b=true)∨(C==a)=false)∧PySem.W.subIn K (.ref C) (.ref a)=some b
 | .type T=>PySem.W.kitMeta T=true∧PySem.W.subIn K (.ref C) (.type T)=some b
 | _=>False
def KA (K:PySem.W.Frag) (C:Addr) (xc:Str→Value) (l:List Str):List Str→Prop
 | []=>True
 | a::as=>KA1 K C (xc a) (decide (a∈l))∧KA K C xc l as
def AF1 (K:PySem.W.Frag) (v:Value):Prop:=match v with
 | .ref a=>PySem.W.isClsIn K a=true∧PySem.W.typeIn K (.ref a)=some (.type "type")
 | _=>True
def AF (K:PySem.W.Frag) (xc:Str→Value):List Str→Prop
 | []=>True
 | a::as=>AF1 K (xc a)∧AF K xc as
structure EK (K:PySem.W.Frag) (C:Addr):Prop where
 b:PySem.W.subIn K (.ref C) (.type "BaseException")=some true
 d:PySem.W.hasDictIn K C=true
 g:PySem.W.findIn K (.ref C) "__getattribute__"=some (some (.builtin "BaseException.__getattribute__"))
 k:PySem.W.findIn K (.ref C) "__getattr__"=some none
 a:PySem.W.findIn K (.ref C) "__class__"=some (some (.builtin "object.__class__"))
 m:PySem.W.mroIn K C (.type "object")=some true
 s:PySem.W.findIn K (.ref C) "__setattr__"=some (some (.builtin "object.__setattr__"))
 p:PySem.W.keepIn K (.ref C)=true
 t:PySem.W.typeIn K (.ref C)=some (.type "type")
section
variable {K:PySem.W.Frag} {C:Addr} {v:Value} {b:Bool} {xc:Str→Value} {xl:Str→Addr} {l AS:List Str} {T:List (Str × List Str)} {c:Str}
theorem akJ (h:KA1 K C v b) (f:AF1 K v):PySem.W.kitOne K (.ref C) v=some b:=by
 unfold KA1 at h
 unfold AF1 at f
 split at h
 ·rename_i a
  obtain ⟨⟨rfl,rfl⟩ | n,s⟩:=h
  ·unfold PySem.W.kitOne
   rw [if_pos (beq_self_eq_true _)]
  ·obtain ⟨i,t⟩:=f
   unfold PySem.W.kitOne PySem.W.kitCls
   rw [if_neg (by intro z;have z2:=beq_iff_eq.mp z;cases z2;simp at n)]
   dsimp only
   rw [if_pos (by rw [t];unfold PySem.W.isClsIn at i;rw [i];rfl)];exact s
 ·rename_i T
  obtain ⟨m,s⟩:=h
  unfold PySem.W.kitOne PySem.W.kitCls
  rw [if_neg (by intro z;cases beq_iff_eq.mp z)]
  dsimp only
  rw [if_pos m];exact s
 ·exact h.elim
theorem KA.at:∀ {as:List Str},KA K C xc l as→c∈as→KA1 K C (xc c) (decide (c∈l))
 | a::as,h,m=>(List.mem_cons.mp m).elim (fun e=>by rw [e];exact h.1) fun m=>KA.at h.2 m
theorem AF.at:∀ {as:List Str},AF K xc as→c∈as→AF1 K (xc c)
 | a::as,h,m=>(List.mem_cons.mp m).elim (fun e=>by rw [e];exact h.1) fun m=>AF.at h.2 m
def Qw (K:PySem.W.Frag) (xl:Str→Addr) (xc:Str→Value) (AS:List Str):List (Str × List Str)→Prop
 | []=>True
 | p::r=>(EK K (xl p.1)∧KA K (xl p.1) xc p.2 AS)∧Qw K xl xc AS r
theorem Qw.at:∀ {T:List (Str × List Str)},Qw K xl xc AS T→∀ {d:Str} {l:List Str},zb T d=some l→EK K (xl d)∧KA K (xl d) xc l AS
 | p::r,h,d,l,e=>by
  unfold zb at e
  split at e
  ·rename_i q
   cases e
   rw [q];exact h.1
  ·exact Qw.at h.2 e
theorem Zx (h:Qw K xl xc AS T) {d:Str} {z:Bool} (e:subT AS T d c=some z):c∈AS∧EK K (xl d)∧KA1 K (xl d) (xc c) z:=by
 unfold subT at e
 split at e
 ·rename_i m
  obtain ⟨l,el,rfl⟩:=Option.map_eq_some_iff.mp e
  obtain ⟨a,k⟩:=h.at el
  exact ⟨m,a,k.at m⟩
 ·cases e
abbrev HX (G:bB) (M:aF) (c:Str) (v:Value):Prop:=∀ d z,M.sub d c=some z→ExcC G.K (G.xl d)∧PySem.W.kitOne G.K (.ref (G.xl d)) v=some z
abbrev HT (G:bB) (M:aF) (c:Str) (v:Value):Prop:=∀ d z,M.sub d c=some z→PySem.W.exmOne G.K (.ref (G.xl d)) v=some z
theorem ajZ {M:aF} {G:bB} (hM:M.sub=subT AS T) (h:Qw G.K G.xl xc AS T) (f:AF G.K xc AS) (hn:PySem.W.specialIn G.K (.builtin "object.__class__") "__get__"=some (some (.builtin "getset_descriptor.__get__"))) (ht:PySem.W.takesIn G.K (.builtin "object.__class__")=some true) (c:Str):HX G M c (xc c):=fun d z e=>by
 rw [hM] at e
 obtain ⟨m,k,a⟩:=Zx h e
 exact ⟨⟨k.g,k.k,k.b,k.d,k.a,hn,ht,k.m⟩,akJ a (f.at m)⟩
theorem aa1 {M:aF} {G:bB} {a:Addr} (hM:M.sub=subT AS T) (h:Qw G.K G.xl xc AS T) (f:AF G.K xc AS) (c:Str) (hc:xc c=.ref a) (b:PySem.W.subIn G.K (.ref a) (.type "BaseException")=some true) (dd:PySem.W.hasDictIn G.K a=true):HT G M c (.ref a):=fun d z e=>by
 rw [hM] at e
 obtain ⟨m,k,q⟩:=Zx h e
 have f1:=f.at m
 rw [hc] at q f1
 exact PySem.W.exm_ref b dd f1.2 q.2
def aaZ (K:PySem.W.Frag) (xl:Str→Addr):List (Str × Option Str)→Prop
 | []=>True
 | p::r=>(match p.2 with | some f=>PySem.W.findIn K (.ref (xl p.1)) f=some none | none=>True)∧aaZ K xl r
theorem aaZ.at:∀ {X:List (Str × Option Str)},aaZ K xl X→∀ {d f:Str},zb X d=some (some f)→PySem.W.findIn K (.ref (xl d)) f=some none
 | p::r,h,d,f,e=>by
  unfold zb at e
  split at e
  ·rename_i q
   have h1:=h.1
   rw [Option.some.inj e] at h1
   rw [q];exact h1
  ·exact aaZ.at h.2 e
abbrev HF (G:bB) (M:aF) (f:Str):Prop:=∀ d,M.xi d=some (some f)→XfC G.K (G.xl d)∧PySem.W.findIn G.K (.ref (G.xl d)) f=some none
structure EI (b:Bx) (K:PySem.W.Frag) (C:Addr) (nm ql f:Str) (st:Stmt):Prop where
 ex:∃ (n q:Str) (N:Addr) (bs bm:List Value) (sn:List Str) (sb:List Value) (ab:Bool) (cl:Option Bool) (dd:Option Addr) (k0 k1 k2 k3 k5:Option Value),K.lookup C=some (excClassObj n q C N bs bm true sn sb ab cl dd k0 k1 k2 k3 k5 b.new_)∧PySem.W.excTail b.tl bm=true
 fi:∃ (F:Addr) (oc kV dc pm cd ct:Value) (od an:Option Addr) (sl:Array (Option Value)),PySem.W.findIn K (.ref C) "__init__"=some (some (.ref F))∧K.lookup F=some ⟨oc,od,.func (PySem.W.fnOf nm ql (defArgs st) (defBody st) (defScope st) .none kV dc pm an cd ct),sl⟩∧PySem.W.codeIn K cd ql=true∧PySem.W.keepIn K (.ref F)=true∧PySem.W.typeIn K (.ref F)=some (.type "function")
 fd:PySem.W.findIn K (.ref C) f=some none
theorem afp {bx:Bx} {nm ql f:Str} {st:Stmt} {n q:Str} {N F:Addr} {bs bm:List Value} {sn:List Str} {sb:List Value} {ab:Bool} {cl:Option Bool} {dd:Option Addr} {k0 k1 k2 k3 k5:Option Value} {oc kV dc pm cd ct:Value} {od an:Option Addr} {sl:Array (Option Value)}
  (a:K.lookup C=some (excClassObj n q C N bs bm true sn sb ab cl dd k0 k1 k2 k3 k5 bx.new_)) (r:PySem.W.excTail bx.tl bm=true) (i:PySem.W.findIn K (.ref C) "__init__"=some (some (.ref F))) (l:K.lookup F=some ⟨oc,od,.func (PySem.W.fnOf nm ql (defArgs st) (defBody st) (defScope st) .none kV dc pm an cd ct),sl⟩)
  (c:PySem.W.codeIn K cd ql=true) (k:PySem.W.keepIn K (.ref F)=true) (t:PySem.W.typeIn K (.ref F)=some (.type "function")) (e:PySem.W.findIn K (.ref C) f=some none):EI bx K C nm ql f st:=⟨⟨_,_,_,_,_,_,_,_,_,_,_,_,_,_,_,a,r⟩,⟨_,_,_,_,_,_,_,_,_,_,i,l,c,k,t⟩,e⟩
theorem aj9 (b:PySem.W.subIn K (.ref C) (.type "BaseException")=some true) (d:PySem.W.hasDictIn K C=true) (g:PySem.W.findIn K (.ref C) "__getattribute__"=some (some (.builtin "BaseException.__getattribute__"))) (k:PySem.W.findIn K (.ref C) "__getattr__"=some none) (a:PySem.W.findIn K (.ref C) "__class__"=some (some (.builtin "object.__class__")))
  (m:PySem.W.mroIn K C (.type "object")=some true) (s:PySem.W.findIn K (.ref C) "__setattr__"=some (some (.builtin "object.__setattr__"))) (p:PySem.W.keepIn K (.ref C)=true) (t:PySem.W.typeIn K (.ref C)=some (.type "type")):EK K C:=⟨b,d,g,k,a,m,s,p,t⟩
theorem afv {P:Program} {w:World} {mg:Str→Option Value} {base h:Heap} {x nm ql fld n0 n1:Str} {st:Stmt} {ps:List Str} {p1 p2 p3 p4:Pos} {bx:Bx} (bk:Np bx) (k:EK K C) (e:EI bx K C nm ql fld st) (X:K.In h) (GG:h.Ns mainGlobals mg) (hm:PySem.W.nsIn K mainGlobals x=some (some (.ref C)))
  (Sc:FnScope [n0,n1] ps (defScope st)) (hps:ps.length=2) (hb:defBody st=[.Assign [.Attribute (.Name n0 p1) fld p2] (.Name n1 p3) p4])
  (v0:Vis (defScope st) n0) (v1:Vis (defScope st) n1) (d0:(n0==("__debug__":Str))=false∧(n0==("__classdict__":Str))=false) (d1:(n1==("__debug__":Str))=false∧(n1==("__classdict__":Str))=false)
  (hs:∀ env:Env,swapsWith (.Name n1 p3) (some (.Attribute (.Name n0 p1) fld p2)) p4.line env=pure false)
  (hbi:∀ (kV wW pm:Value) (an:Option Addr) (cI ct:Value) (us:List Value),us.length=ps.length→bindArgs (PySem.W.fnOf nm ql (defArgs st) (defBody st) (defScope st) .none kV wW pm an cI ct) ⟨us,[]⟩=pure (ps.zip us)):aet P w K mg base C x fld:=by
 obtain ⟨F,oc,kV,dc,pm,cd,ct,od,an,sl,i,l,c,kp,t⟩:=e.fi
 have FD:=zF (st:=st) l c kp (kws:=[]) (.inl rfl)
 have T:YH bx K C:=⟨e.ex,k.s,k.b,k.t,k.p⟩
 exact ⟨bx,_,_,_,bk,af2 bk FD Sc hps hb T e.fd v0 v1 d0 d1 hs,T,i,t,aef FD hbi,PySem.W.mg_of X GG hm⟩
end
end Oz
namespace Oz
open PySem PySem.Spec L2 PyProof.Rows LiI
section
variable {G:bB} {k n:Nat} {X:Cx} {M:aF} {W:WX} {a b c e:Expr} {ca cb cc:E} {cU:Es} {p pos cH oZ:Pos} {te:TE}
def aeb:V→Hp→VK→Prop:=fun x H Q=>∃ (d:Addr) (kvs:List (Key × V)),x=.ref d∧Rd H d (.dK kvs)∧
 ∀ (H':Hp) (p:Addr) (ts:List Addr),(∀ b o,H b=some o→H' b=some o)→H p=none→(∀ t∈ts,H t=none)→p∉ts→H' p=some (.lst (ts.map V.ref))→Paired (fun (t:Addr) (q:Key × V)=>H' t=some (.tup [kV q.1,q.2])) ts kvs→Q (.ref p) H'
theorem Jf (hc:X.calm=true) (he:PE X e te) (hg:Gl X "list") (hm:X.mg "list"=none) (hv:bootBuiltins "list"=some (.type "list")) (fU:attributeBase e "items" X.env (eval e X.env)=eval e X.env:=by rfl) (fO:(cH.endLine==oZ.line)=true:=by rfl)
  (hs:starEach [.Call (.Attribute e "items" cH) [] [] oZ] X.env=(false,eval (.Call (.Attribute e "items" cH) [] [] oZ) X.env)::starEach [] X.env:=by rfl) :
  PE X (.Call (.Name "list" p) [.Call (.Attribute e "items" cH) [] [] oZ] [] pos) (fun σ H Q=>te σ H fun x H1=>aeb x H1 Q):=by
 refine ⟨fun pins s σ H Q I hq=> ?_⟩
 refine wpAny_Call_Name_kw (ld_blt I hg hm hv ?_)
 refine PyProof.Rows.callWith_type1 ?_ hs rfl
 rw [hs]
 show wpAny _ _ (spliced ((false,eval (.Call (.Attribute e "items" cH) [] [] oZ) X.env)::backTo pos (starEach [] X.env))) _ _ s
 refine Calls.spliced_cons ?_
 refine wpAny_Call_method (T:="dict") (id:="dict.items") fU rfl fO F.plainAttrs_dict F.slot_dict_items F.type_dict_items (thn (he.run pins s σ H _ I hq) fun u s1 ⟨x,H1,I1,rx,d,kvs,ex,hd,q⟩=> ?_)
 subst ex
 obtain rfl:u=Value.ref d:=rx
 have hob:ObjOk X.prog X.w H1 s1.heap d (.dK kvs):=by
  rcases hd with hd | ⟨o,hd⟩
  ·exact I1.hok d _ hd
  ·exact (I1.hok d _ hd).2
 obtain ⟨hz,hs0,vs,kv,hdo⟩:=hob
 obtain ⟨ep,hat⟩:=hdo.dictAt
 have lk:kvs.length=vs.length:=Paired.length kv
 have I2:Inv X pins σ H1 { s1 with heap:=s1.heap.push { cls:=.type "dict_items",data:=.fields #[.ref d] } }:=I1.kept (t':=s1.toks) fun b ob q=>Heap.get?_push_of_some _ q
 refine ⟨hdo.typeIs,hdo.mapOf.noDict,?_⟩
 show wpAny _ _ (callWith oZ (.builtin "dict.items") [.ref d] [] []) _ X.xe s1
 refine method_meetsIn F.slot_dict_items F.entry_dict_items rfl (PySem.evalArgs_none ⟨rfl,hdo.typeIs,F.args_dict_items_1 _,_,meets_dict_items (mixKind X.prog X.w) d hs0,⟨vs,hdo⟩,?_⟩)
 refine Calls.spliced_nil ?_
 refine PySem.W.kdx_call (knd:=mixKind X.prog X.w) (kvs:=vs) (ep:=ep) (I1.ok.hd hc) ⟨_,Heap.get?_push_size _ rfl,rfl,rfl⟩ (hat.push _) (by omega) fun h' tk aQ c as hk hS hl hG hacc=> ?_
 obtain ⟨H',k1,k2,k3,k4,k5,k6,J⟩:=items_laid (tk:=tk) I2 hz kv hk hS hl hG hacc
 exact ⟨.ref _,H',J,rfl,q H' _ as k1 k2 k3 k4 k5 k6⟩
theorem Zt {ρ:List Addr} {H H0 H':Hp} {S S0:Hs} {σ:L2.St} {W':WX} {o:Ob} {Q:VK} {p:Addr} {ρ0:List Addr} (s0:bf G ρ0 H0 S0) (st0:Step ρ0 H0 ρ H) (s:bf G ρ H S) (h:PR G W' σ ρ H (.ok o S) (Cd G H0 Q)) (sm:Same H H') (hp:H p=none)
  (ho:∀ ρ',(∀ t,t∈ρ'→t∈ρ∨t=p)→Step ρ H ρ' H'→OR G ρ' H' p o):Q (.ref p) H':=by
 have n:p∉ρ:=s.free hp
 have bU:Step ρ H (ρ++[p]) H':=(bu sm).one hp
 refine h ρ _ (bu sm) (s.same sm) p (none_of s0 s st0 hp) n (ho ρ (fun _ h=>.inl h) (bu sm)) ⟨by simp [s.len],?_,fun r o' a h1 h2=> ?_⟩
 ·rw [List.nodup_append]
  exact ⟨s.nd,by simp,fun x hx y hy=>by
   have:y=p:=by simpa using hy
   subst this
   exact fun e=>n (e ▸ hx)⟩
 ·by_cases hr:r<S.length
  ·rw [List.getElem?_append_left hr] at h1
   rw [List.getElem?_append_left (by rw [s.len];exact hr)] at h2
   exact (s.at_ r o' a h1 h2).same bU sm
  ·have TV:r=S.length:=by
    have:=(List.getElem?_eq_some_iff.mp h1).1
    simp at this
    omega
   subst TV
   have e1:o'=o:=by simpa using h1.symm
   have e2:a=p:=by rw [← s.len] at h2;simpa using h2.symm
   subst e1 e2
   exact ho _ (fun t h=>by simpa using h) bU
theorem QC {ρ:List Addr} {H:Hp}:∀ {ts:List Addr} {kvs:List (Key × V)} {ks:List Key} {xs:List Vl},Paired (fun (t:Addr) (q:Key × V)=>H t=some (.tup [kV q.1,q.2])) ts kvs→(∀ t∈ts,t∉ρ)→kvs.map (·.1)=ks→au G ρ H xs (kvs.map (·.2))→au G ρ H (bQ ks xs) (ts.map V.ref)
 | [],[],ks,xs,_,_,hk,hv=>by subst hk;cases xs<;>exact au.nil
 | t::ts,q::kvs,ks,xs,.cons h r,hn,hk,hv=>by
  subst hk
  cases xs with
  | nil=>simp [au] at hv
  | cons x xs=>
   simp only [List.map_cons,au] at hv
   obtain ⟨v,w,e,h1,h2⟩:=hv
   cases e
   simp only [List.map_cons,bQ]
   refine au.cons ?_ (QC r (fun t ht=>hn t (List.mem_cons_of_mem _ ht)) rfl h2)
   simp only [VR]
   refine ⟨t,_,rfl,.inl ⟨.inl h,hn t List.mem_cons_self⟩,au.cons ?_ (au.cons h1 au.nil)⟩
   obtain ⟨kk,vv⟩:=q
   cases kk<;>simp only [VR]<;>rfl
theorem agm [bT G X] (g:Good G k X) (hg:Gl X "list") (hm:X.mg "list"=none) (he:PE X e (tE G M W ca)) (fU:attributeBase e "items" X.env (eval e X.env)=eval e X.env:=by rfl) (fO:(cH.endLine==oZ.line)=true:=by rfl)
  (hs:starEach [.Call (.Attribute e "items" cH) [] [] oZ] X.env=(false,eval (.Call (.Attribute e "items" cH) [] [] oZ) X.env)::starEach [] X.env:=by rfl) :
  PE X (.Call (.Name "list" p) [.Call (.Attribute e "items" cH) [] [] oZ] [] pos) (tF G M W (.itl ca)):=
 (Jf g.calm he hg hm (by decide+kernel) fU fO hs).imp fun σ H Q ⟨ρ,η,S,s,r,h⟩=>⟨ρ,η,S,s,r,by
  simp only [d9] at h
  refine (PR.bind h).mono fun ρ1 H1 x S1 st s1 h1 v hv=> ?_
  split at h1
  ·rename_i ks xs ed
   obtain ⟨q,kvs,rfl,g1,g2,g3⟩:=nR s1 hv ed
   refine ⟨q,kvs,rfl,g1,fun H' p ts sm hp hts hpt hH ht=>Zt s st s1 h1 sm hp fun ρ' hρ gG=>⟨_,hH,?_⟩⟩
   have hn:∀ t∈ts,t∉ρ1:=fun t h z=>s1.free (hts t h) z
   refine QC ht (fun t h z=> ?_) g2 (au.step gG _ _ g3)
   rcases hρ t z with z | z
   ·exact hn t h z
   ·exact hpt (z ▸ h)
  ·exact h1.elim⟩
end
end Oz
namespace Oz
open PySem PySem.Spec L2 PyProof.Rows
section
variable {G:bB} {k n:Nat} {X:Cx} {M:aF} {W:WX} {a b c e:Expr} {ca cb cc:E} {cU:Es} {p p2 pos cH oZ jA:Pos} {te:TE}
def rLenT (X:Cx):List V→Hp→VK→Prop:=fun xs H Q=>∃ (a:Addr) (l:List Str),xs=[.ref a]∧H a=some (SetTO X.prog X.w a l)∧l.length<64∧Q (.int (l.length:Nat)) H
end
end Oz
namespace Oz
open PySem L2
theorem pid {p:Prop} (h:p):p:=h
def Ends (o:Out) (P:Out→Prop):Prop:=P o
def Kn (M:aF) (cs:Cs) (P:Out→Prop) (o:Out):Prop:=match o with
 | .nx η S=>Ends (exec M cs η S) P
 | o=>P o
def Tn (I:Sg→Hs→Prop) (P:Out→Prop) (o:Out):Prop:=match o with
 | .nx η S=>I η S
 | .cnt η S=>I η S
 | .brk η S=>P (.nx η S)
 | o=>P o
inductive Ox {α:Type}:List α→Nat→α→List α→Prop where
 | z (a v:α) (l:List α):Ox (a::l) 0 v (v::l)
 | s (a v:α) (l l':List α) (i:Nat) (h:Ox l i v l'):Ox (a::l) (i+1) v (a::l')
theorem Ox.eq {α:Type} {l l':List α} {i:Nat} {v:α} (h:Ox l i v l'):l.set i v=l':=by
 induction h with
 | z a v l=>rfl
 | s a v l l' i h ih=>rw [List.set_cons_succ,ih]
section
variable {M:aF} {c:C} {cs a b:Cs} {e e1 e2:E} {es:Es} {f:F} {t:Tg} {s:Src} {η η1 η2:Sg} {S S1 S2 S3 S4 S5 T T2:Hs} {x y z k:Vl} {o:Ob} {lk:List Lk} {xs:List Vl} {P:Out→Prop} {d:Bool} {i j:Nat}
theorem ak7 (h:Ends (aP M c η S) (Kn M cs P)):Ends (exec M (.cons c cs) η S) P:=by
 unfold Ends Kn at *
 simp only [exec]
 cases q:aP M c η S<;>rw [q] at h<;>exact h
theorem alP (h:aP M c η S=.nx η1 S1) (k:Ends (exec M cs η1 S1) P):Ends (exec M (.cons c cs) η S) P:=by
 unfold Ends at *
 rw [aq h rfl];exact k
theorem ae1 (h:P (.nx η S)):Ends (exec M .nil η S) P:=by unfold Ends;rw [aM];exact h
theorem abW (h:Ends (exec M cs η S) P):Ends (exec M .nil η S) (Kn M cs P):=ae1 h
theorem rY (hv:ev M e η S=.ok x S1) (hb:Ox η i (some x) η1) (k:Ends (exec M cs η1 S1) P):Ends (exec M (.cons (.asg (.nm i) e) cs) η S) P:=
 alP (bz x S1 hv (by unfold aZ;rw [hb.eq])) k
theorem afl (hv:ev M e η S=.ok x S1) (k:P (.ret (.val x) S1)):Ends (exec M (.cons (.ret e) cs) η S) P:=by unfold Ends;rw [bF (dI x S1 hv)];exact k
theorem agE (hv:d9 M f η S=.ok o S1) (k:P (.ret (.frs o) S1)):Ends (exec M (.cons (.Yq f) cs) η S) P:=by unfold Ends;rw [bF (agN o S1 hv)];exact k
theorem w_ite (ht:ev M e η S=.ok (.bl d) S1) (k1:d=true→Ends (exec M a η S1) (Kn M cs P)) (k0:d=false→Ends (exec M b η S1) (Kn M cs P)):Ends (exec M (.cons (.ite e a b) cs) η S) P:=by
 refine ak7 ?_
 unfold Ends at *
 cases d with
 | true=>rw [cQ S1 ht rfl];exact k1 rfl
 | false=>rw [bD S1 ht rfl];exact k0 rfl
theorem abk (ht:ev M e η S=.ok (.bl d) S1) (hd:d=false) (k:Ends (exec M b η S1) (Kn M cs P)):Ends (exec M (.cons (.ite e a b) cs) η S) P:=w_ite ht (fun h=>by rw [hd] at h;cases h) fun _=>k
end
theorem Ends.mono {o:Out} {P Q:Out→Prop} (h:Ends o P) (k:∀ o,P o→Q o):Ends o Q:=k o h
theorem Tn.mono {I J:Sg→Hs→Prop} {P:Out→Prop} {o:Out} (h:Tn I P o) (k:∀ η S,I η S→J η S):Tn J P o:=by
 cases o<;>first | exact k _ _ h | exact h
def Ln (body:Sg→Hs→Out) (t:Tg) (xs:List Vl) (P:Out→Prop) (o:Out):Prop:=match o with
 | .nx η S=>Ends (forL body t [] xs η S) P
 | .cnt η S=>Ends (forL body t [] xs η S) P
 | .brk η S=>P (.nx η S)
 | o=>P o
section
variable {M:aF} {a b c e:E} {es:Es} {f:F} {op:Operator} {co p q:CmpOp} {η:Sg} {S S1 S2 S3 H H':Hs} {T T':Hs} {x y z v:Vl} {d d1 d2:Bool} {o:Ob} {xs ys:List Vl} {i k r:Nat} {g m cl:Str}
theorem afj (ha:ev M a η S=.ok x S1) (hb:ev M b η S1=.ok y S2) (hp:cmpop p S2 x y=some d1) (hc:ev M e η S2=.ok z S2) (hq:cmpop q S2 y z=some d2):ev M (.Ru p q a b e) η S=.ok (.bl (d1&&d2)) S2:=by
 cases d1 with
 | true=>rw [Ks (d1:=true) ha hb hp hc hq];rfl
 | false=>rw [LC ha hb hp];rfl
theorem aan (hc:ev M c η S=.ok (.bl d) S1) (hd:d=true) (ha:ev M a η S1=.ok x S2):ev M (.ite c a b) η S=.ok x S2:=by subst hd;exact lW hc ha
theorem ajj (hs:evs M es η S=.ok xs S1) (hz:Nat.ble xs.length 1000000=true):ev M (.tup es) η S=.ok (.tup xs) S1:=jg hs (Nat.le_of_ble_eq_true hz)
theorem rJ (hs:evs M es η S=.ok xs S1) (hz:Nat.ble xs.length 1000000=true):d9 M (.lst es) η S=.ok (.lst xs) S1:=lK hs (Nat.le_of_ble_eq_true hz)
theorem Jv {zs:List Vl} (ha:ev M a η S=.ok x S1) (hb:ev M b η S1=.ok y S2) (hx:bV S2 x=some xs) (hy:bV S2 y=some ys) (hz:xs.length+ys.length≤1000000) (e:xs++ys=zs):d9 M (.cat a b) η S=.ok (.lst zs) S2:=by rw [← e];exact aj0 ha hb hx hy hz
theorem aj1 {ks:List Key} {vs zs:List Vl} (ha:ev M a η S=.ok x S1) (hd:aX S1 x=some (ks,vs)) (e:bQ ks vs=zs):d9 M (.itl a) η S=.ok (.lst zs) S1:=by simp only [d9,ha,Res.bind,hd,e]
theorem ju (hf:d9 M f η S=.ok (.lst xs) S1):ev M (.inl f) η S=.ok (.lst xs) S1:=du hf
theorem ahI (ha:ev M a η S=.ok x S1) (hm:lH S1 x cl m=true) (hs:evs M es η S1=.ok xs S2) (hc:M.cal (dot cl m) (x::xs) S2=.ok (.frs o) S3) (hv:o.inl=v):ev M (.Zf cl m a es) η S=.ok v S3:=by rw [aah ha hm hs hc];exact congrArg (Res.ok · S3) hv
theorem aeU {cl d:Str} {ns:List Str} {vs:List Vl} {w:Bool} (ha:ev M a η S=.ok (.err d ns vs) S1) (h:M.sub d cl=some w):ev M (.xP cl a) η S=.ok (.bl w) S1:=ajp ha h
theorem aiY (ha:ev M a η S=.ok x S1) {ns:List Str} (h:lD S1 x=some (cl,ns,xs)):ev M (.isC cl a) η S=.ok (.bl true) S1:=TQ ha h
theorem ajU {ns:List Str} (h:lD H x=some (cl,ns,xs)) (hn:ns.contains m=false):lH H x cl m=true:=by simp only [lH,h,hn,Bool.not_false,Bool.and_true,decide_true]
theorem aiN (h:H[r]? =some (.lst xs)) (hx:xs[i]? =some x):dM H (.ref r) (.int i)=some x:=by
 unfold dM
 simp only [aX,h,cV]
 exact atI_nat hx
theorem Wr:∀ xs ys:List Vl,dH (xs++ys)=(dH xs&&dH ys)
 | [],ys=>by simp only [List.nil_append,dH,Bool.true_and]
 | x::xs,ys=>by simp only [List.cons_append,dH,Wr xs ys,Bool.and_assoc]
theorem Gj {z:Str} {l:List Str}:lU H (.str z) (.lst (l.map .str))=some (decide (z∈l)):=by
 have h1:(l.map Vl.str).all Vl.flat=true:=List.all_eq_true.mpr fun x hx=>by
  obtain ⟨w,_,rfl⟩:=List.mem_map.mp hx;rfl
 show (if ((Vl.str z).flat&&(l.map Vl.str).all Vl.flat)=true then some ((l.map Vl.str).any fun w=>eqF w (.str z)) else _)=_
 rw [if_pos (by rw [h1];rfl)]
 simp only [Option.some.injEq,List.any_map]
 rw [Bool.eq_iff_iff,List.any_eq_true,decide_eq_true_eq]
 constructor
 ·rintro ⟨w,hw,e⟩
  have:w=z:=by simpa [eqF,Function.comp] using e
  exact this ▸ hw
 ·exact fun h=>⟨z,h,by simp [eqF,Function.comp]⟩
end
section
variable {M:aF} {own:List Nat} {jr test ke ve:E} {t:Tg} {s:Src} {η:Sg} {S S1:Hs} {lk:List Lk} {α:Type}
end
section
variable {M:aF} {own Qm:List Nat} {jr test:E} {t t1:Tg} {s s1:Src} {η:Sg} {S:Hs} {lk:List Lk} {α β:Type}
end
theorem ajS {α:Type} (xs:List α) (c:Nat):uo xs (some (c:Int)) none=xs.drop c:=by
 unfold uo
 rw [HT.sIx_none,HT.sIx_nat]
 by_cases h:c≤xs.length
 ·rw [Nat.min_eq_left h,List.take_of_length_le (by simp)]
 ·rw [Nat.min_eq_right (by omega),List.drop_length,List.drop_of_length_le (by omega)]
  simp
theorem afi {α:Type} (xs:List α) (c:Nat):uo xs none (some (c:Int))=xs.take c:=by
 unfold uo
 rw [HT.sIx_none,HT.sIx_nat]
 simp only [List.drop_zero,Nat.sub_zero]
 by_cases h:c≤xs.length
 ·rw [Nat.min_eq_left h]
 ·rw [Nat.min_eq_right (by omega),List.take_length,List.take_of_length_le (by omega)]
mutual
theorem ajC:∀ v:Vl,v.nr=true→v.ef=true
 | .non,_ | .bl _,_ | .int _,_ | .str _,_=>by simp only [Vl.ef]
 | .tup xs,h | .lst xs,h | .dct _ xs,h | .obj _ _ xs,h=>by simp only [Vl.nr] at h;simp only [Vl.ef];exact Mv xs h
 | .ref _,h | .err _ _ _,h=>by simp [Vl.nr] at h
theorem Mv:∀ v:List Vl,dH v=true→Zg v=true
 | [],_=>by simp only [Zg]
 | x::xs,h=>by
  simp only [dH,Bool.and_eq_true] at h
  simp only [Zg,ajC x h.1,Mv xs h.2,Bool.and_self]
end
theorem afg {S:Hs} (h:NR S):TF S=true:=List.all_eq_true.mpr fun o ho=>by
 have:=h o ho
 cases o<;>exact Mv _ this
def efO (x:Option Vl):Bool:=match x with
 | some v=>v.ef
 | none=>true
theorem aea:Y9 []=true:=rfl
theorem ZX (x:Option Vl) (η:Sg):Y9 (x::η)=(efO x&&Y9 η):=rfl
section
variable {M:aF} {cs bd hd:Cs} {η η1 η2:Sg} {S S1 S2:Hs} {i:Nat} {cl:Str} {er:Xc} {P:Out→Prop}
end
def RV (S:Hs) (Q:Vl→Prop) (o:Out):Prop:=∃ v T,o=.ret (.val v) (S++T)∧v.nr=true∧Q v
def RF (S:Hs) (Q:Ob→Prop) (o:Out):Prop:=∃ ob,Q ob∧ob.nr=true∧((∃ T,o=.ret (.frs ob) (S++T))∨∃ T r,o=.ret (.val (.ref (S.length+r))) (S++T)∧T[r]? =some ob)
section
variable {M:aF} {d:jU} {xs:List Vl} {S:Hs} {v:Vl} {o:Ob}
abbrev envOf (d:jU) (xs:List Vl):Sg:=xs.map some++List.replicate (d.nn - xs.length) none
theorem aiJ (Q:Vl→Prop) (hl:xs.length=d.np) (hS:NR S) (h2:d.two=false) (h:Ends (exec M d.body (envOf d xs) (S++[])) (RV S Q)):∃ v,Q v∧v.nr=true∧gK M d xs S=.ok (.val v) S:=by
 obtain ⟨v,T,e,hv,q⟩:=h
 rw [List.append_nil] at e
 exact ⟨v,q,hv,cY hl e hS hv h2⟩
theorem ZK (hl:xs.length=d.np) (hS:NR S) (h2:d.two=false) (h:Ends (exec M d.body (envOf d xs) (S++[])) (RV S (·=v))):gK M d xs S=.ok (.val v) S:=by
 obtain ⟨w,rfl,_,e⟩:=aiJ _ hl hS h2 h
 exact e
theorem aj3 (Q:Ob→Prop) (hl:xs.length=d.np) (hS:NR S) (h2:d.two=false) (h:Ends (exec M d.body (envOf d xs) (S++[])) (RF S Q)):∃ o,Q o∧o.nr=true∧gK M d xs S=.ok (.frs o) S:=by
 obtain ⟨o,q,ho,h⟩:=h
 rw [List.append_nil] at h
 rcases h with ⟨T,e⟩ | ⟨T,r,e,hr⟩
 ·exact ⟨o,q,ho,adE hl e hS ho h2⟩
 ·exact ⟨o,q,ho,vB hl e hS hr ho h2⟩
theorem ZS (hl:xs.length=d.np) (hS:NR S) (h2:d.two=false) (h:Ends (exec M d.body (envOf d xs) (S++[])) (RF S (·=o))):gK M d xs S=.ok (.frs o) S:=by
 obtain ⟨w,rfl,_,e⟩:=aj3 _ hl hS h2 h
 exact e
def RX (S:Hs) (Q:Xc→Prop) (o:Out):Prop:=∃ x η T,o=.exc x η (S++T)∧(∀ ns vs,x.fs=some (ns,vs)→dH vs=true)∧Q x
theorem aeZ (Q:Xc→Prop) (hl:xs.length=d.np) (hS:NR S) (h:Ends (exec M d.body (envOf d xs) (S++[])) (RX S Q)):∃ x,Q x∧gK M d xs S=.exc x S:=by
 obtain ⟨x,η,T,e,hv,q⟩:=h
 rw [List.append_nil] at e
 exact ⟨x,q,Mr hl e hS hv⟩
end
end Oz
namespace Oz
open PySem L2
theorem Gi {xs:List Vl} {ds:List PyData} (h:tL xs=some ds):ds.isEmpty=xs.isEmpty:=by
 cases xs with
 | nil=>simp only [tL,Option.some.injEq] at h;subst h;rfl
 | cons x xs=>
  simp only [tL] at h
  split at h
  ·cases h;rfl
  ·cases h
theorem wV {S:Hs} {v:Vl} {xs:List Vl} (hv:dataOf S v=(Vl.lst xs).toD) (h:Il xs=true) (hd:pY xs≤50):ph S v (.lst [])=some xs.isEmpty:=by
 have p1:(Vl.lst xs).pd=true:=by simp only [Vl.pd];exact h
 have p2:(Vl.lst []).pd=true:=by simp only [Vl.pd,Il]
 obtain ⟨d1,e1,k1⟩:=CV _ p1
 obtain ⟨d2,e2,k2⟩:=uY S p2
 have d1':=k1.shaped (by simp only [Vl.dep];omega)
 have d2':=k2.shaped (by simp only [Vl.dep,pY];omega)
 unfold ph
 rw [hv,e1,e2]
 simp only
 rw [if_pos ⟨d1',d2'⟩]
 simp only [Vl.toD] at e1
 obtain ⟨ds,e3,rfl⟩:=Option.map_eq_some_iff.mp e1
 have f2:d2=.list []:=by
  unfold dataOf at e2
  rw [yu _ _ (Xk _ p2)] at e2
  simp only [Vl.toD,tL,Option.map_some,Option.some.injEq] at e2
  exact e2.symm
 subst f2
 rw [← Gi e3]
 cases ds<;>simp [PyData.eqv,PyData.eqvAll]
end Oz
namespace Oz
open PySem L2 PyProof.Rows
section
variable {G:bB} {M:aF} {W:WX} {X:Cx} {k:Nat}
def tP (K:PySem.W.Frag):Pth→TE
 | .nm i=>tVar i
 | .fl i f=>tFld K (tVar i) f
theorem ajz {i:Nat} {x:Str} {p:Pos} (hN:X.N[i]? =some x) (hv:Vis X.env.scope x) (hd:(x==("__debug__":Str))=false:=by decide) (Ab:(x==("__classdict__":Str))=false:=by decide):PE X (.Name x p) (tP X.K (.nm i)):=pe_var hN hv hd Ab
def Pth.fok (K:PySem.W.Frag) (G:bB):Pth→Prop
 | .nm _=>True
 | .fl _ f=>(∀ c,Cls K (G.cl c))∧∀ c,NoAttr K (G.cl c) f
def Dk.it (d:Addr) (od:Obj) (kvs:List (Key × V)):Dk→It
 | .keys=>Itk d od kvs
 | .items=>Iti d od kvs
def tHd (K:PySem.W.Frag) (kd:Dk) (p:Pth):TI:=fun σ H R=>tP K p σ H fun v H1=>∃ d od kvs,v=.ref d∧H1 d=some (.frz od (.dK kvs))∧R (kd.it d od kvs) H1
section
variable {jr tg iter kx vx:Expr} {lM:List Expr} {scope:Scope} {own:List (Str × Nat)} {pos:Pos} {ce ke ve:E} {t:Tg} {ci:Es} {kd:Dk} {p:Pth}
end
theorem pn {x:Str} {p:Pos} (i:Nat) (hN:X.N[i]? =some x:=by rfl) (hv:Vis X.env.scope x:=by first | exact Or.inl rfl | exact Or.inr (Or.inl rfl) | exact Or.inr (Or.inr rfl)) (hd:(x==("__debug__":Str))=false:=by decide) (Ab:(x==("__classdict__":Str))=false:=by decide):PE X (.Name x p) (tP X.K (.nm i)):=ajz hN hv hd Ab
end
end Oz
namespace Oz
open PySem PySem.Spec L2 PyProof.Rows
section
variable {P:Program} {w:World} {B:Around} {R:Result→Shared→Prop} {it:Addr} {fp wr:List Addr} {n:Nat} {Pv:Nat→Value→Prop} {tn:Nat→Heap→Prop} {y:Value}
end
section
variable {P:Program} {w:World} {A:Around} {E:Value→Shared→Prop} {s:Shared} {l:Addr} {its:List Value} {ns:List Int} {y:Value}
end
section
variable {G:bB} {k n:Nat} {X:Cx} {M:aF} {W:WX} {a b c e:Expr} {ca cb cc:E} {cU:Es} {p pos cH oZ aik:Pos} {te:TE}
def ano:List V→List V→Hp→VK→Prop:=fun xs zs H Q=>∃ (l:Addr) (ns:List Int) (j:Int),xs=[.ref l]∧zs=[.int j]∧Rd H l (.lst (ns.map V.int))∧Q (.int ((Qs ns).getD j)) H
theorem au.keys {ρ:List Addr} {H:Hp}:∀ kvs:List (Key × V),au G ρ H ((kvs.map (·.1)).map Vt) (kvs.map fun kv=>kV kv.1)
 | []=>au.nil
 | kv::kvs=>au.cons (by obtain ⟨kk,_⟩:=kv;cases kk<;>simp only [Vt,VR]<;>rfl) (au.keys kvs)
end
end Oz
namespace Oz
open PySem L2 PyProof.Rows PySem.Froz PySem.Spec
section
variable {G:bB} {M:aF} {W:WX} {X:Cx} {k:Nat} {jr tg iter:Expr} {lM:List Expr} {scope:Scope} {own:List (Str × Nat)} {pos:Pos} {ce:E} {t:Tg} {qY:Src} {ci:Es}
def tS1 (G:bB) (M:aF) (W:WX) (P:Program) (w:World) (own:List Nat) (ce:E) (t:Tg) (qY:Src) (ci:Es):TE:=fun σ H Q=>∃ ρ η S,bf G ρ H S∧ER G ρ H η σ∧
 PR G W σ ρ H ((pH M qY η S).bind fun p S1=>(Ce (afb M ce own t ci η) p.1 p.2 S1).bind fun zs S2=>.ok zs S2) fun ρ' H' zs S'=>zs.length<64∧∀ p,H p=none→p∉ρ'→H' p=some (SetTO P w p (Ny zs []))→bf G ρ' H' S'→Q (.ref p) H'
end
end Oz
namespace Oz
open PySem L2 PyProof.Rows
section
variable {G:bB} {M:aF} {W:WX} {X:Cx} {k:Nat}
noncomputable def anS (M:aF) (ce:E) (Qm:List Nat) (t1:Tg) (ci1:Es) (η1:Sg) (y:Vl) (S5:Hs):Res (Option Vl):=match aZ t1 y (bR η1 Qm) with
 | none=>.bad
 | some η2=>(dB M ci1 η2 S5).bind fun b1 S6=>if b1=true then (ev M ce η2 S6).bind fun y S7=>.ok (some y) S7 else .ok none S6
noncomputable def an1 (M:aF) (own:List Nat) (t:Tg) (ci:Es) (RJ:Src) (η:Sg) (x:Vl) (S2:Hs):Res (Option (Sg × List Lk × List Vl)):=match aZ t x (bR η own) with
 | none=>.bad
 | some η1=>(dB M ci η1 S2).bind fun b S3=>if b=true then (pH M RJ η1 S3).bind fun p1 S4=>.ok (some (η1,p1.1,p1.2)) S4 else .ok none S3
end
end Oz
namespace Oz
open PySem PySem.Spec L2 PyProof.Rows HT
section
variable {P:Program} {w:World} {A:Around} {E:Value→Shared→Prop} {s:Shared}
end
section
variable {G:bB} {M:aF} {W:WX} {X:Cx} {k:Nat} {a:Expr} {ca:E} {n:Nat} {p1 p2 p3 pos:Pos} {te:TE}
theorem au.rev {ρ:List Addr} {H:Hp}:∀ {xs:List Vl} {vs:List V},au G ρ H xs vs→au G ρ H xs.reverse vs.reverse
 | [],_,h=>by simp only [au] at h;subst h;exact au.nil
 | x::xs,vs,h=>by
  simp only [au] at h
  obtain ⟨v,r,rfl,h1,h2⟩:=h
  rw [List.reverse_cons,List.reverse_cons]
  exact (au.rev h2).append (au.cons h1 au.nil)
theorem ahg (g:Good G k X) (ha:PE X a (tE G M W ca)):PE X (.Subscript a (.Slice none none (some (.UnaryOp .USub (.Constant (.int 1) n p1) p2)) p3) pos) (tF G M W (.rev ca)):=(pe_revL ha).imp fun σ H Q ⟨ρ,η,S,s,r,h⟩=>⟨ρ,η,S,s,r,by
 simp only [d9] at h
 refine (PR.bind h).mono fun ρ1 H1 x S1 st s1 h1 v hv=> ?_
 split at h1
 ·rename_i xs ex
  obtain ⟨l,vs,rfl,h2,h3⟩:=lQ s1 hv ex
  exact ⟨l,vs,rfl,.inl h2,fun q hq=>jC s st s1 h1 hq fun ρ' gG=>⟨_,upd_same,au.step gG _ _ (au.rev h3)⟩⟩
 ·exact h1.elim⟩
end
end Oz
namespace Oz
open PySem L2
def LS (S:Hs):Prop:=S.all (Ob.lim S.length)=true
theorem NR.ls {S:Hs} (h:NR S):LS S:=h.cl _
mutual
theorem agB {n m:Nat} (h:n≤m):∀ v:Vl,v.lim n=true→v.lim m=true
 | .non,_ | .bl _,_ | .int _,_ | .str _,_=>by simp only [Vl.lim]
 | .tup xs,k | .lst xs,k | .dct _ xs,k | .obj _ _ xs,k | .err _ _ xs,k=>by simp only [Vl.lim] at k ⊢;exact NB h xs k
 | .ref r,k=>by simp only [Vl.lim,decide_eq_true_eq] at k ⊢;omega
theorem NB {n m:Nat} (h:n≤m):∀ v:List Vl,aV n v=true→aV m v=true
 | [],_=>by simp only [aV]
 | x::xs,k=>by
  simp only [aV,Bool.and_eq_true] at k ⊢
  exact ⟨agB h x k.1,NB h xs k.2⟩
end
theorem aiZ {n m:Nat} (h:n≤m) {o:Ob} (k:o.lim n=true):o.lim m=true:=by
 cases o<;>exact NB h _ k
theorem LS.app {S T:Hs} (h:LS S) (k:∀ o∈T,Ob.lim (S++T).length o=true):LS (S++T):=List.all_eq_true.mpr fun o ho=>by
 rcases List.mem_append.mp ho with ho | ho
 ·exact aiZ (by simp) (List.all_eq_true.mp h o ho)
 ·exact k o ho
theorem LS.nr {S T:Hs} (h:LS S) (k:T.all Ob.nr=true):LS (S++T):=h.app fun o ho=>af3 _ (List.all_eq_true.mp k o ho)
theorem LS.one {S:Hs} {o:Ob} (h:LS S) (k:o.nr=true):LS (S++[o]):=h.nr (by simp [k])
section
variable {M:aF} {d:jU} {xs:List Vl} {S T:Hs} {v:Vl} {o:Ob}
end
section
variable {M:aF} {own Qm:List Nat} {jr:E} {t t1:Tg} {s s1:Src} {η:Sg} {S:Hs} {lk:List Lk} {α β:Type}
end
section
variable {M:aF} {a d:E} {η:Sg} {S S1 S2:Hs} {x:Vl} {xs:List Vl} {ks:List Key} {vs:List Vl}
theorem aka (ha:ev M a η S=.ok x S1) (hl:bV S1 x=some xs):d9 M (.rev a) η S=.ok (.lst xs.reverse) S1:=by simp only [d9,ha,Res.bind,hl]
end
section
variable {M:aF} {own:List Nat} {jr:E} {t:Tg} {kd:Dk} {p:Pth} {η:Sg} {S:Hs} {x:Vl} {h:Hld} {α:Type} {b cs:Cs} {P:Out→Prop}
end
end Oz
namespace Oz
open PySem PySem.Spec L2 PyProof.Rows
section
variable {G:bB} {k n:Nat} {X:Cx} {M:aF} {W:WX} {f:Addr} {fd:FuncData} {ps ks:List Str} {q c m x:Str} {a b e:Expr} {es:List Expr} {ca cb:E} {cU kes cs:Es} {p pos cH aik:Pos} {dxs:List Vl} {dvs:List V} {mv:List Value} {kws:List Keyword} {nm:Option Str}
def ajT (S1:Hs):Res Rv→Res Vl
 | .ok (.val .non) T=>.ok (.ref S1.length) T
 | _=>.bad
def tNr (G:bB) (M:aF) (c:Str) (W:WX) (n:Nat) (cU:Es) (dxs:List Vl):TE:=fun σ H Q=>∃ ρ η S,bf G ρ H S∧ER G ρ H η σ∧PR G W σ ρ H (evs M cU η S) fun ρ1 H1 xs S1=>xs.length=n∧
 PR G W σ ρ1 H1 (ajT S1 (M.cal (dot c "__init__") (.ref S1.length::(xs++dxs)) (S1++[.ins c [] []]))) (okV G Q)
end
end Oz
namespace Oz
open PySem PySem.Spec L2 PyProof.Rows
section
variable {G:bB} {k n:Nat} {X:Cx} {M:aF} {W:WX} {a b e:Expr} {ca cb:E} {p pos:Pos}
structure IsL (K:PySem.W.Frag) (u:Value):Prop where
 non:PySem.W.kitOne K (.type "NoneType") u=some false
 bl:PySem.W.kitOne K (.type "bool") u=some false
 int:PySem.W.kitOne K (.type "int") u=some false
 str:PySem.W.kitOne K (.type "str") u=some false
 tup:PySem.W.kitOne K (.type "tuple") u=some false
 lst:PySem.W.kitOne K (.type "list") u=some true
 dct:PySem.W.kitOne K (.type "dict") u=some false
end
section
variable {G:bB} {k n:Nat} {X:Cx} {M:aF} {W:WX} {a b e:Expr} {ca cb:E} {p pos:Pos}
structure anD (K:PySem.W.Frag) (u:Value):Prop where
 non:PySem.W.kitOne K (.type "NoneType") u=some false
 bl:PySem.W.kitOne K (.type "bool") u=some false
 int:PySem.W.kitOne K (.type "int") u=some false
 str:PySem.W.kitOne K (.type "str") u=some false
 tup:PySem.W.kitOne K (.type "tuple") u=some true
 lst:PySem.W.kitOne K (.type "list") u=some false
 dct:PySem.W.kitOne K (.type "dict") u=some false
end
end Oz
namespace Oz
open PySem PySem.Spec L2 PyProof.Rows
section
variable {P:Program} {w:World} {K:PySem.W.Frag} {mg:Str→Option Value} {base:Heap} {G:bB} {k n:Nat} {X:Cx} {M:aF} {W:WX} {f:Addr} {fd:FuncData} {ps:List Str} {q x:Str} {e:Expr} {es:List Expr} {cU cs:Es} {p pos:Pos} {dxs:List Vl} {dvs:List V} {mv:List Value} {sp:Sp}
structure ane (P:Program) (w:World) (K:PySem.W.Frag) (mg:Str→Option Value) (base:Heap) (G:bB) (M:aF) (k:Nat) (x q:Str) (n:Nat) (dxs:List Vl):Prop where
 ex:∃ (f:Addr) (fd:FuncData) (ps:List Str) (mv:List Value) (dvs:List V),qu P w K mg base k f fd ps (spI G M (n+dxs.length) q)∧mg x=some (.ref f)∧PySem.W.keepIn K (.ref f)=true∧KBn K fd ps n [] (fun us ws=>us++ws++mv) (fun vs zs=>vs++zs++dvs)∧Az G dxs dvs
end
end Oz
namespace Oz
open PySem PySem.Spec L2 PyProof.Rows
section
variable {G:bB} {k:Nat} {X:Cx} {M:aF} {W:WX} {a b:Expr} {ca cb:E} {cH oZ:Pos}
end
section
variable {base h:Heap} {l:List Env} {e:Addr} {Z:Obj→Prop}
theorem Zv (f:HandSPX.FlyingZ base l e Z h) (o:Obj):HandSPX.FlyingZ base l e Z (h.push o)∧h.UpToSlots (h.push o):=by
 have kp:∀ b u,h.get? b=some u→(h.push o).get? b=some u:=fun b u q=>Heap.get?_push_of_some _ q
 obtain ⟨f1,f2,f3,oe,vs,T,oT,ts,g1,g2,g3,g4,g5,g6,g7,g8,g9⟩:=f
 exact ⟨⟨fun b u q=>kp b u (f1 b u q),f2,f3.of_keeps fun b u q _=>⟨u,kp b u q,rfl⟩,oe,vs,T,oT,ts,kp _ _ g1,g2,g3,g4,g5,g6,kp _ _ g7,g8,g9⟩,Heap.UpToSlots.of_keeps kp⟩
end
def aoB (K:PySem.W.Frag) (c1 c2:Value) (i:Nat) (ts:Addr→Value→Option Addr→TS) (Ax:WX) (D:L2.Ends):WX:=fun cls d σ H=>
 ∃ b,PySem.W.exmAny K cls [c1,c2]=some b∧(b=true→∀ a,H a=none→ts a cls d { nx:=fun σ' H'=>D.nx (σ'.set i none) H',rt:=D.rt,bk:=fun σ' H'=>D.bk (σ'.set i none) H',ct:=fun σ' H'=>D.ct (σ'.set i none) H' } (σ.set i (some (.ref a))) H)∧
  (b=false→Ax cls d σ H)
section
variable {X:Cx} {x1 x2 n:Str} {c1 c2:Value} {i kt:Nat} {body suite:List Stmt} {b₀:Stmt} {np1 np2 pt pos xJ:Pos} {tb:WX→TS} {ts:Addr→Value→Option Addr→TS} {Ax:WX}
theorem Vk {X:Cx} {x:Str} {c:Value} {np:Pos} {a:Addr} {pn:List (Addr × Obj)} {σ:L2.St} {H:Hp} {s:Shared} (hc:Names X x c) (S3:Inv (X.suite a pn) [] σ H s) {Q:Value→Shared→Prop} {E:Value→Shared→Prop} (q:Q c s):wpAny (model X.prog X.w) (X.A.mark (some (.ref a))) (eval (.Name x np) X.env) Q E s:=by
 obtain ⟨hg,hdbg,hm | ⟨hm,hv,NK⟩⟩:=hc
 ·exact ld_glob (X:=X.suite a pn) S3 hg hm q hdbg
 ·exact ld_blt (X:=X.suite a pn) S3 hg hm hv q NK hdbg
end
section
variable {G:bB} {M:aF} {W:WX} {X:Cx} {k i kt:Nat} {x1 x2 c1 c2 n:Str} {cb ch:Cs} {body suite:List Stmt} {b₀:Stmt} {np1 np2 pt pos xJ:Pos} {cv1 cv2:Value}
end
section
variable {M:aF} {bd hd cs:Cs} {c1 c2:Str} {i:Nat} {η η1:Sg} {S S1:Hs} {P:Out→Prop} {er:Xc}
end
section
variable {G:bB} {k:Nat} {X:Cx} {M:aF} {W:WX} {a:Expr} {ca:E} {pos:Pos} {x:Str}
end
def aoC (p:Addr) (zs:List Str):V→List V→Hp→VK→Prop:=fun x xs H Q=>∃ k,x=V.ref p∧xs=[.str k]∧k∈zs∧Q (.int (zs.idxOf k:Nat)) H
section
variable {G:bB} {k:Nat} {X:Cx} {M:aF} {W:WX} {e:Expr} {cb:E} {pos cH np:Pos} {x q:Str} {p:Addr} {zs:List Str} {its:Array Value} {n:Nat} {sl:Array (Option Value)} {kv:List (Str × Vl)}
end
end Oz
namespace Oz
open PySem PySem.Spec L2 PyProof.Rows
section
variable {X:Cx} {C fI:Addr}
theorem ad5 {pins:List (Addr × Obj)} {σ:L2.St} {H1 H2:Hp} {Q:XK} {hp zG h2:Heap} {g1 g2:Array GenState} {d1 d2:Drawn} {t1 t2:Nat} {os1 os2:OsState} {a C d:Addr} {fs:List (Str × V)} (T:Raises X (.ref C)) (I1:Inv X pins σ H1 ⟨hp,g1,d1,t1,os1⟩)
  (hn:hp.objs.size≤a) (kk:∀ b o,hp.get? b=some o→zG.get? b=some o) (un:Un (frs X.stack) [] (upd H1 a (exo a C none)) H2 zG h2) (ok:HOk X.prog X.w H2 h2) (eo:os2=os1) (br:AllBare g2)
  (ea:H2 a=some (exo a C (some d))) (ed:H2 d=some (exd d fs)) (nd:H1 d=none) (qq:Q (.ref C) (some d) (upd (del H2 a) d (.xd fs))):L2N.MkP X pins σ Q (.ref a) ⟨h2,g2,d2,t2,os2⟩:=by
 obtain ⟨t0,G,J,kG,ge,at_,na⟩:=mk_end0 (d2:=d2) (t2:=t2) I1 hn kk un ok eo br ea ed nd
 refine ⟨a,_,_,⟨G,g2,d2,t2,os2⟩,_,.ref C,some d,rfl,J,kG,ge,at_,⟨rfl,rfl,fun vs e=> ?_⟩,rfl,rfl,na,rfl,br,T,qq⟩
 cases e;rfl
theorem ag0 {X:Cx} {e:Expr} {es:List Expr} {ta:TA} {p pos:Pos} {b:Bx} {CX:CXT} {x:Str} {C fI:Addr} {k:Nat} {fd:FuncData} {ps:List Str} {sp:Sp} {ds:List Value} {dvs:List V} (bk:Np b) (T:YH b X.K C) (iC:PySem.W.findIn X.K (.ref C) "__init__"=some (some (.ref fI))) (tI:PySem.W.typeIn X.K (.ref fI)=some (.type "function"))
  (F1:FnOk X.prog X.w X.K X.mg X.base CX k fI fd ps sp) (hr:Room (k+1) X.A) (hb:Binds X.K fd ps ds) (hd:Vals dvs ds) (hx:Passes CX X (fun _ _ _=>False)) (hg:Gl X x) (hm:X.mg x=some (.ref C)) (ha:PA X (e::es) ta)
  (sX:(x==("__debug__":Str))=false) (he:starEach (e::es) X.env=(false,eval e X.env)::starEach es X.env) (jt:(backTo pos (starEach es X.env)).any (·.1)=false) :
  L2N.PMk X (.Call (.Name x p) (e::es) [] pos) (tMkO C sp dvs ta):=by
 intro pins s σ H Q I h
 obtain ⟨nm,q,N,bs,bm,sn,sub,ab,col,dd,k0,k1,k2,k3,k5,eC,tlo⟩:=T.cls
 refine wpAny_Call_Name_kw (ld_glob I hg hm (PySem.W.callWith_K (h₀:=X.base) I.ok.mod.kin T.kp (thn (ha.run pos pins s σ H _ I h) fun us s1 ⟨vs,H1,I1,r1,hz,q1⟩=>⟨I1.kIn,?_⟩) he jt) sX)
 cases s1 with
 | mk hp g dr tk os=>
 have nn:hp.objs.size≤hp.objs.size+1:=Nat.le_succ _
 have hq:=q1 (hp.objs.size+1) (I1.hok.fresh nn)
 have kk:∀ c o,hp.get? c=some o→((hp.push (PySem.W.kdv_tup us)).push (PySem.HandSPX.excO C hp.objs.size)).get? c=some o:=fun c o e=>Heap.get?_push_of_some _ (Heap.get?_push_of_some _ e)
 have I2:Inv X pins σ (upd H1 (hp.objs.size+1) (exo (hp.objs.size+1) C none)) ⟨(hp.push (PySem.W.kdv_tup us)).push (PySem.HandSPX.excO C hp.objs.size),g,dr,tk,os⟩:=I1.laid (t':=tk) kk nn (exo_ok (by heap_get))
 have r2:Vals (V.ref (hp.objs.size+1)::(vs++dvs)) (Value.ref (hp.objs.size+1)::(us++ds)):=.cons rfl (r1.append hd)
 have hl:(Value.ref (hp.objs.size+1)::us++ds).length=ps.length:=(F1.len _ _ _ _ hq ▸ r2.length).symm
 have hus:us.length≤sizeLine:=by have:=Paired.length r1;rw [sizeLine_eq];omega
 refine wpAny_call (aaA bk.base (by rw [PySem.W.excTail_contains _ bm tlo];exact bk.hB) (by rw [PySem.W.excTail_contains _ bm tlo];exact bk.hA) (by rw [PySem.W.excTail_contains _ bm tlo];exact bk.hN) (I1.kIn _ _ eC) (PySem.W.looks_findIn I1.kIn iC) (fun self=>PySem.W.bind_fn I1.kIn self tI) hus
  (codeAny_mono (F1.run _ X.stack _ _ ⟨Value.ref (hp.objs.size+1)::us,[]⟩ (Value.ref (hp.objs.size+1)::(us++ds)) _ _ (fun _ _ _=>False) (hr.make C us []) (I2.env0.make C us []) (hb _ (Value.ref (hp.objs.size+1)::us) I2.kIn hl) r2 hq) fun r s' hq'=> ?_))
 rcases r with er | fl
 ·exact hx pins σ _ _ er s' I2 hq'
 ·cases fl with
  | ret u=>
   obtain ⟨v,H2,os2,bare2,un2,hok2,rv,ev,d,fs,ea,ed,hd1,q2⟩:=hq'
   cases s'
   exact ⟨by subst ev;exact rv,ad5 (raises_own T.bx T.ty) I1 nn kk un2 hok2 os2 bare2 ea ed hd1 q2⟩
  | _=>exact False.elim hq'
end
section
variable {G:bB} {M:aF} {W:WX} {X:Cx} {k j:Nat} {c f:Str} {a:Expr} {ca:E} {p p2 pos jA:Pos}
theorem nj [bT G X] (g:Good G (k+2) X) (tk:L2N.Takes X W) (R:aet X.prog X.w X.K X.mg X.base (G.xl c) c f) (hM:M.xi c=some (some f)) (ha:PE X a (tE G M W ca)) (hg:Gl X c:=by rfl) (sX:(c==("__debug__":Str))=false:=by decide)
  (he:starEach [a] X.env=(false,eval a X.env)::starEach [] X.env:=by rfl) (jt:(backTo pos (starEach [] X.env)).any (·.1)=false:=by rfl) :
  PS X (.Raise (some (.Call (.Name c p) [a] [] pos)) none jA) (tC G M W (.raise c (.cons ca .nil))):=by
 obtain ⟨bb,fI,fd,ps,bk,F1,T,iC,tI,hb,hm⟩:=R.ex
 refine (L2N.ps_raise g.calm tk (ag0 (dvs:=[]) bk T iC tI F1 (g.rm.mono (by omega)) hb .nil (fun _ _ _ _ _ _ I h=>passL _ _ _ _ _ _ I h) hg hm (t7 ha gJ he) sX he jt)).imp fun D σ H ⟨ρ,η,S,s,r,h⟩=>⟨ρ,η,S,s,r,?_⟩
 simp only [aP] at h
 refine (PQ.out s r h).mono fun ρ1 H1 xs S1 bU s1 hq vs hv=> ?_
 rw [hM] at hq
 cases xs with
 | nil=>exact hq.elim
 | cons x xs=>
  cases xs with
  | cons _ _=>exact hq.elim
  | nil=>
   simp only [au] at hv
   obtain ⟨v,r',rfl,hv,rfl⟩:=hv
   refine ⟨by simp,fun b hb=>⟨b,v,rfl,upd_same,fun d hd Km=>⟨rfl,d,[(f,v)],upd_same,?_,?_,?_⟩⟩⟩
   ·rw [upd_ne Km,upd_same]
   ·rwa [upd_ne Km] at hd
   ·have hd1:H1 d=none:=by rwa [upd_ne Km] at hd
    have sm:Same H1 (upd (del (upd (upd (upd H1 b (exo b (G.xl c) none)) d (exd d [(f,v)])) b (exo b (G.xl c) (some d))) b) d (.xd [(f,v)])):=fun y o hy=>by
     have n1:y≠d:=fun z=>by rw [z,hd1] at hy;cases hy
     have n2:y≠b:=fun z=>by rw [z,hb] at hy;cases hy
     rw [upd_ne n1,del_ne n2,upd_ne n2,upd_ne n1,upd_ne n2]
     exact hy
    have q:=hq ρ1 _ σ (bu sm) (s1.same sm) ((r.step bU).step (bu sm))
    exact q d [(f,v)] upd_same (fun z=>by
     obtain ⟨i,o,_,_,ho⟩:=s1.mem z
     obtain ⟨u,hu⟩:=ho.there
     rw [hd1] at hu;cases hu) rfl (au.cons (VR.step (bu sm) _ _ hv) au.nil)
theorem Kl {C:Addr} {bmB:List Value} {B ae0 ahx x:String} (F:ExcBaseFacts B ae0 ahx bmB) (q:PySem.W.excIn X.K C bmB ae0=true) (hm:X.mg c=some (.ref C)) (kp:PySem.W.keepIn X.K (.ref C)=true) (r:Raises X (.ref C)) (hg:Gl X c)
  (sX:(c==("__debug__":Str))=false):L2H.PMk5 X (.Call (.Name c p) [] [] pos) (fun _ H Q=>Q (.ref C) none H):=by
 intro pins s σ H Q I h
 refine wpAny_Call_Name_kw (ld_glob I hg hm ?_ sX)
 refine PySem.W.callWith_K0 I.kIn kp ?_
 obtain ⟨bm,N,nm,qn,bs,hdct,sn,sub,ab,col,dd,k0,k1,k2,k3,k5,mN,hC,hN,hni,T⟩:=exc_obj I.kIn q
 exact wpAny_call_exc_subT F T hC hN hni (fun h' e made=>L2H.mk_of5 I made r h (I.hok.gone made.new)) (show 0≤sizeLine by rw [sizeLine_eq];omega)
theorem vg [bT G X] (g:Good G k X) (tk:Takes X W) (R:afR X.K X.mg (G.xl c) c) (hM:M.xi c=some none) (hg:Gl X c:=by rfl) (sX:(c==("__debug__":Str))=false:=by decide) :
  PS X (.Raise (some (.Call (.Name c p) [] [] pos)) none jA) (tC G M W (.raise c .nil)):=by
 obtain ⟨bb,bk,q,hm,kp,bx,ty⟩:=R.ex
 refine (L2N.ps_raise g.calm (Xr tk) (Kl (x:="") bk.base q hm kp (raises_own bx ty) hg sX).pmk).imp fun D σ H ⟨ρ,η,S,s,r,h⟩=> ?_
 simp only [aP,evs,Res.out,hM,List.length_nil,Nat.zero_le,if_true] at h
 exact h ρ H σ (bu fun _ _ h=>h) s r
theorem Tc (tk:Takes X W) (hot:L2H.HotC X) (R:afR X.K X.mg (G.xl c) c) (hM:M.xi c=some none) (hg:Gl X c:=by rfl) (sX:(c==("__debug__":Str))=false:=by decide) :
  PS X (.Raise (some (.Call (.Name c p) [] [] pos)) (some (.Constant .none j p2)) jA) (tC G M W (.raise c .nil)):=by
 obtain ⟨bb,bk,q,hm,kp,bx,ty⟩:=R.ex
 refine (L2H.ps_raiseHN hot tk (Kl (x:="") bk.base q hm kp (raises_own bx ty) hg sX)).imp fun D σ H ⟨ρ,η,S,s,r,h⟩=> ?_
 simp only [aP,evs,Res.out,hM,List.length_nil,Nat.zero_le,if_true] at h
 exact h ρ H σ (bu fun _ _ h=>h) s r
end
def ai6 (K:PySem.W.Frag) (c1 c2:Value) (ts:Addr→Value→Option Addr→TS) (Ax:WX) (D:L2.Ends):WX:=fun cls d σ H=>
 ∃ b,PySem.W.exmAny K cls [c1,c2]=some b∧(b=true→∀ a,H a=none→ts a cls d D σ H)∧(b=false→Ax cls d σ H)
section
variable {X:Cx} {x1 x2:Str} {c1 c2:Value} {kt:Nat} {body suite:List Stmt} {b₀:Stmt} {np1 np2 pt pos xJ:Pos} {tb:WX→TS} {ts:Addr→Value→Option Addr→TS} {Ax:WX}
theorem Yi (hs:X.stack=X.env::X.outer) (hf:X.env.frame=some X.env.locals) (hc1:Names X x1 c1) (hc2:Names X x2 c2) (hpa:∀ hd:Option Value,PassesOwnAt (model X.prog X.w) (X.A.mark hd) X.A X.env X.xe) (tk:Takes X Ax)
  (hb:∀ (W:WX) (pn:List (Addr × Obj)) (xe:Value→Shared→Prop),L2N.Takes (X.tr pn xe) W→PassesOwn (model X.prog X.w) X.A X.env xe→PSs (X.tr pn xe) body (tb W))
  (hsu:∀ (a:Addr) (oe:Obj) (cls:Value) (d:Option Addr) (pn:List (Addr × Obj)),L2N.Zn cls d oe→(∃ vs,oe.data=.fields vs)→Takes (L2H.suiteX X a ((a,oe)::pn)) Ax→L2H.HotC (L2H.suiteX X a ((a,oe)::pn))→PSs (L2H.suiteX X a ((a,oe)::pn)) (b₀::suite) (ts a cls d)) :
  PS X (.Try body [.ExceptHandler (some (.Tuple [.Name x1 np1,.Name x2 np2] kt pt)) none (b₀::suite) xJ] [] [] pos) (fun D σ H=>tb (ai6 X.K c1 c2 ts Ax D) D σ H):=by
 refine ⟨fun pins s σ H D I h=> ?_⟩
 have ok:=I.ok
 have hfr:X.A.frames=some (X.env::X.outer):=by rw [ok.frames,hs]
 refine wpAny_Try_except ?_
 refine wpAny_mono ((hb (ai6 X.K c1 c2 ts Ax D) (X.pn++pins) (fun e s₁=>wpAny (model X.prog X.w) X.A (noteFrame e X.env) (fun _ s₂=>wpAny (model X.prog X.w) X.A (setFlight e none) (fun _ s₃=>
  wpAny (model X.prog X.w) X.A (handleBy e X.env [.ExceptHandler (some (.Tuple [.Name x1 np1,.Name x2 np2] kt pt)) none (b₀::suite) xJ]) (SP X pins D) X.xe s₃) X.xe s₂) X.xe s₁) (fun u s' xx=> ?_) PassesOwn.looking).run [] s σ H D (I.toTry _) h) (fun f s1 Cp=> ?_) (fun e s1 he=>he)
 ·obtain ⟨a,B,sI,pins',σ',H',cls,d,rfl,J',nb,up,sky,na,os,ag,b,hb1,hyes,hno⟩:=xx
  have J:Inv X pins σ' H' sI:=J'.ofTry ok
  have ak1:Sky B (X.env::X.outer) a (L2N.Zn cls d) X.env.locals s'.heap:=by rw [← hs];exact sky
  show wpAny (model X.prog X.w) X.A (noteFrame (.ref a) X.env) _ _ _
  refine L2N.Sky.land L2N.Zn.steady hfr hf ak1 fun h3 fl3 up3=> ?_
  have J3:Inv X pins σ' H' { s' with heap:=h3 }:=J.landed nb fl3.1 (up.trans up3) os ag
  obtain ⟨oe3,vs3,he3,hz3,hd3⟩:=fl3.there
  have ai3:∀ {h:Heap} {o:Obj} {vs:Array Value},h.FunFrames B (X.env::X.outer)→h.get? a=some o→o.data=.fields vs→a∉frs (X.env::X.outer):=fun {h o vs} ff e dd hm=>by
   obtain ⟨_,o',e',hnf⟩:=ff.mem hm
   rw [e] at e';cases e'
   exact hnf _ dd
  have nfr:=ai3 fl3.2.2.1 he3 hd3
  have nL:a≠X.env.locals:=fun z=>nfr (List.mem_filterMap.mpr ⟨X.env,List.mem_cons_self,by rw [hf,z]⟩)
  have nF:a∉X.fs:=fun hm=>by
   obtain ⟨e,he,q⟩:=List.mem_filterMap.mp hm
   exact nfr (List.mem_filterMap.mpr ⟨e,List.mem_cons_of_mem _ he,q⟩)
  have S3:=J3.suite he3 hd3 na nL nF
  refine wpAny_handleBy_cons (codeAny_handlers_test ?_) (by intro q;cases q)
  -- the pair of classes is laid
  obtain ⟨tp,etp⟩:∃ tp:Obj,tp={ cls:=.type "tuple",data:=.seq [c1,c2].toArray }:=⟨_,rfl⟩
  obtain ⟨h5,e5⟩:∃ h5,h5=h3.push tp:=⟨_,rfl⟩
  have fp:=Zv fl3 tp
  rw [← e5] at fp
  obtain ⟨fl5,up5⟩:=fp
  have J5:Inv X pins σ' H' { s' with heap:=h5 }:=J.landed nb fl5.1 ((up.trans up3).trans up5) os ag
  obtain ⟨oe5,vs5,he5,hz5,hd5⟩:=fl5.there
  have htp:h5.get? h3.objs.size=some { cls:=.type "tuple",data:=.seq [c1,c2].toArray }:=by rw [e5,etp];exact Heap.get?_push_size _ rfl
  have LT:PySem.W.Looks (model X.prog X.w) h5 (typeOf (.ref a)) cls:=fun A Q E s k q=>wpAny_typeOf_ref (k _ _ he5) (by rw [hz5.1];exact q)
  have LM:=PySem.W.exm_tup2 (M:=model X.prog X.w) (J5.kIn) LT htp hb1
  refine wpAny_Tuple_spliced (Calls.spliced_cons (Vk hc1 S3 (Calls.spliced_cons (Vk hc2 S3 (Calls.spliced_nil ⟨show 2≤sizeLine by decide,?_⟩)))))
  have es:({ s' with heap:=h3.push { cls:=.type "tuple",data:=.seq [c1,c2].toArray } }:Shared)={ s' with heap:=h5 }:=by rw [e5,etp]
  show wpAny _ _ _ _ _ ({ s' with heap:=h3.push { cls:=.type "tuple",data:=.seq [c1,c2].toArray } }:Shared)
  rw [es]
  refine (LM.here ?_)
  cases b with
  | true=>
   refine codeAny_handlers_suite ?_
   refine HandSPX.lands_againZ fl5 fun h4 fl4 up4=> ?_
   have J4:Inv X pins σ' H' { s' with heap:=h4 }:=J.landed nb fl4.1 (((up.trans up3).trans up5).trans up4) os ag
   obtain ⟨oe4,vs4,he4,hz4,hd4⟩:=fl4.there
   have S4:=J4.suite he4 hd4 na nL nF
   have tkS:Takes (L2H.suiteX X a ((a,oe4)::(X.pn++pins))) Ax:=fun u2 s2 x2=>by
    obtain ⟨a2,B2,sJ,pn2,σ2,H2,cls2,d2,e2,I2,nb2,up2,sk2,na2,os2,ag2,w2⟩:=x2
    exact tk u2 s2 ⟨a2,B2,sJ,pins,σ2,H2,cls2,d2,e2,L2H.unsuiteX I2 ok,nb2,up2,sk2,na2,os2,ag2,w2⟩
   have hot:L2H.HotC (L2H.suiteX X a ((a,oe4)::(X.pn++pins))):=⟨(a,oe4),⟨rfl,vs4,hd4,hz4.2.2 vs4 hd4⟩,List.mem_cons_self⟩
   refine wpAny_mono ((hsu a oe4 cls d (X.pn++pins) hz4 ⟨_,hd4⟩ tkS hot).run [] _ _ H' _ (L2H.suiteX_of S4) (hyes rfl a na)) (fun f s6 Cp=> ?_) (fun e6 s6 z=>hpa (some (.ref a)) e6 s6 z)
   cases f with
   | next=>obtain ⟨σ6,H6,S6,q6⟩:=Cp;exact ⟨_,_,L2H.unsuiteX S6 ok,q6⟩
   | brk=>obtain ⟨σ6,H6,S6,q6⟩:=Cp;exact ⟨_,_,L2H.unsuiteX S6 ok,q6⟩
   | cont=>obtain ⟨σ6,H6,S6,q6⟩:=Cp;exact ⟨_,_,L2H.unsuiteX S6 ok,q6⟩
   | ret u=>obtain ⟨v6,σ6,H6,S6,r6,q6⟩:=Cp;exact ⟨_,_,_,L2H.unsuiteX S6 ok,r6,q6⟩
  | false=>
   show wpAny _ X.A (handleBy (.ref a) X.env []) _ _ _
   refine wpAny_handleBy_nil ?_
   obtain ⟨k1,k2,k3,oe,vs,T,oT,ts',he,hz,hd,h1,hr⟩:=id fl5
   unfold PySem.passOn
   refine wpAny_bind (wpAny_field he hd h1 ?_)
   rw [if_neg (show ¬ ((Value.ref T==Value.none)=true) from by simp)]
   have fin:wpAny (model X.prog X.w) X.A (setFlight (.ref a) X.env.frame) (fun _ s4=>wpAny (model X.prog X.w) X.A (throw (.ref a):Sem Flow) (SP X pins D) X.xe s4) X.xe { s' with heap:=h5 }:=by
    rw [hf]
    refine HandSPX.setFlight_upZ (L2H.flyingZ_imp (fun o z=>z.zc) fl5) fun h4 hh4 up4=>wpAny_throw (tk _ _ ?_)
    exact ⟨a,B,sI,pins,σ',H',cls,d,rfl,J,nb,((up.trans up3).trans up5).trans up4,.inr (.inr (by rw [hs];exact hh4)),na,os,ag,hno rfl⟩
   first
    | exact wpAny_bind (wpAny_pure (wpAny_bind fin))
    | exact wpAny_bind fin
 ·cases f with
  | next=>
   obtain ⟨σ',H',J',q⟩:=Cp
   exact wpAny_execs_nil ⟨σ',H',J'.ofTry ok,q⟩
  | brk=>
   obtain ⟨σ',H',J',q⟩:=Cp
   exact ⟨σ',H',J'.ofTry ok,q⟩
  | cont=>
   obtain ⟨σ',H',J',q⟩:=Cp
   exact ⟨σ',H',J'.ofTry ok,q⟩
  | ret u=>
   obtain ⟨v,σ',H',J',r,q⟩:=Cp
   exact ⟨v,σ',H',J'.ofTry ok,r,q⟩
end
section
variable {G:bB} {M:aF} {W:WX} {X:Cx} {k kt:Nat} {x1 x2 c1 c2:Str} {cb ch:Cs} {body suite:List Stmt} {b₀:Stmt} {np1 np2 pt pos xJ:Pos} {cv1 cv2:Value}
theorem aa0 [bT G X] [ow:Own X] (g:Good G k X) (hc1:Names X x1 cv1) (hc2:Names X x2 cv2) (hpa:∀ hd:Option Value,PassesOwnAt (model X.prog X.w) (X.A.mark hd) X.A X.env X.xe) (tk:Takes X W)
  (hb:∀ (W':WX) (pn:List (Addr × Obj)) (xe:Value→Shared→Prop),Good G k (X.tr pn xe)→PassesOwn (model X.prog X.w) X.A X.env xe→aao (X.tr pn xe) W'→PSs (X.tr pn xe) body (vL G M W' cb))
  (hsu:∀ (a:Addr) (pn:List (Addr × Obj)),Takes (L2H.suiteX X a pn) W→L2H.HotC (L2H.suiteX X a pn)→PSs (L2H.suiteX X a pn) (b₀::suite) (vL G M W ch))
  (aj2:∀ (d:Str) (b:Bool),M.sub d c1=some b→PySem.W.exmOne X.K (.ref (G.xl d)) cv1=some b)
  (aiI:∀ (d:Str) (b:Bool),M.sub d c2=some b→PySem.W.exmOne X.K (.ref (G.xl d)) cv2=some b) :
  PS X (.Try body [.ExceptHandler (some (.Tuple [.Name x1 np1,.Name x2 np2] kt pt)) none (b₀::suite) xJ] [] [] pos) (tC G M W (.Tv cb [c1,c2] ch)):=by
 refine (Yi (tb:=fun W'=>vL G M W' cb) (ts:=fun a cls d=>vL G M W ch) ow.stk ow.frm hc1 hc2 hpa tk (fun W' pn xe tk' po=>hb W' pn xe (g.tr pn xe) po tk') (fun a oe cls d pn _ _ tS hot=>hsu a ((a,oe)::pn) tS hot)).imp fun D σ H ⟨ρ,η,S,s,r,h⟩=>⟨ρ,η,S,s,r,?_⟩
 simp only [aP] at h
 cases eo:exec M cb η S with
 | nx η1 S1=>rw [eo] at h;exact h
 | brk η1 S1=>rw [eo] at h;exact h
 | cnt η1 S1=>rw [eo] at h;exact h
 | ret r1 S1=>rw [eo] at h;exact h
 | bad=>rw [eo] at h;exact h
 | exc z η1 S1=>
  rw [eo] at h
  simp only [Fl] at h
  cases hm1:M.sub z.c c1 with
  | none=>rw [hm1] at h;exact h.elim
  | some b1=>
   cases hm2:M.sub z.c c2 with
   | none=>rw [hm1,hm2] at h;exact h.elim
   | some b2=>
    have Ir:PySem.W.exmAny X.K (.ref (G.xl z.c)) [cv1,cv2]=some (b1 || b2):=by
     unfold PySem.W.exmAny PySem.W.exmAny PySem.W.exmAny
     rw [aj2 _ _ hm1,aiI _ _ hm2]
     simp
    rw [hm1,hm2] at h
    simp only [Bool.or_false] at h
    generalize (b1 || b2)=b at Ir h
    cases b with
    | false=>
     intro ρ' H' σ' st s' r'
     have q:XW G W σ' ρ' H' z:=h ρ' H' σ' st s' r'
     unfold XW at q ⊢
     split at q
     ·rename_i e
      exact ⟨false,Ir,(fun z=>nomatch z),fun _=>q⟩
     ·rename_i ns vs e
      exact fun d fs h1 h2 h3 h4=>⟨false,Ir,(fun z=>nomatch z),fun _=>q d fs h1 h2 h3 h4⟩
    | true=>
     intro ρ' H' σ' st s' r'
     have key:vL G M W ch D σ' H':=⟨ρ',η1,S1,s',r',PQ.step s st s' h⟩
     unfold XW
     split
     ·exact ⟨true,Ir,fun _ a _=>key,(fun z=>nomatch z)⟩
     ·exact fun d fs h1 h2 h3 h4=>⟨true,Ir,fun _ a _=>key,(fun z=>nomatch z)⟩
end
end Oz
namespace Oz
open PySem PySem.Spec L2 PyProof.Rows
def anl (K:PySem.W.Frag) (c1 c2 c3:Value) (i:Nat) (ts:Addr→Value→Option Addr→TS) (Ax:WX) (D:L2.Ends):WX:=fun cls d σ H=>
 ∃ b,PySem.W.exmAny K cls [c1,c2,c3]=some b∧(b=true→∀ a,H a=none→ts a cls d { nx:=fun σ' H'=>D.nx (σ'.set i none) H',rt:=D.rt,bk:=fun σ' H'=>D.bk (σ'.set i none) H',ct:=fun σ' H'=>D.ct (σ'.set i none) H' } (σ.set i (some (.ref a))) H)∧
  (b=false→Ax cls d σ H)
section
variable {X:Cx} {x1 x2 x3 n:Str} {c1 c2 c3:Value} {i kt:Nat} {body suite:List Stmt} {b₀:Stmt} {np1 np2 np3 pt pos xJ:Pos} {tb:WX→TS} {ts:Addr→Value→Option Addr→TS} {Ax:WX}
end
section
variable {G:bB} {M:aF} {W:WX} {X:Cx} {k i kt:Nat} {x1 x2 x3 c1 c2 c3 n:Str} {cb ch:Cs} {body suite:List Stmt} {b₀:Stmt} {np1 np2 np3 pt pos xJ:Pos} {cv1 cv2 cv3:Value}
end
section
variable {M:aF} {bd hd cs:Cs} {c1 c2 c3:Str} {i:Nat} {η η1:Sg} {S S1:Hs} {P:Out→Prop} {er:Xc}
end
section
open PySem.F
end
def bxK:Bx:=⟨"KeyError","LookupError.__new__","LookupError.__init__",[.type "KeyError",.type "LookupError",.type "Exception",.type "BaseException",.type "object"],"LookupError",bxL.tl⟩
end Oz
namespace Oz
open PySem L2 PyProof.Rows
section
variable {P:Program} {w:World} {A:Around} {E:Value→Shared→Prop} {I:Addr} {fp wr:List Addr} {GG:Array GenState→Array GenState→Prop} {n:Nat} {Pv:Nat→Value→Prop} {St:Nat→Shared→Prop}
abbrev amC (s:Shared) (its:Array Value) (k:Nat) (Q:List Value→Shared→Prop):Prop:=∀ (s':Shared) (l:Addr) (h':Heap),(∀ b o,s.heap.get? b=some o→s'.heap.get? b=some o)→s'.gens=s.gens→s'.os=s.os→(∀ b o,s'.heap.get? b=some o→h'.get? b=some o)→s'.heap.objs.size≤l→h'.get? l=some { cls:=.type "list",data:=.seq (its.toList.take k).toArray }→Q ([.ref l]++its.toList.drop k) { s' with heap:=h' }
end
section
variable {G:bB} {k:Nat} {X:Cx} {M:aF} {W:WX} {pos p:Pos} {e:Expr} {ce:E}
def anM (K:PySem.W.Frag) (to:TE) (f:Str):TG:=fun v σ H Q=>to σ H fun x H1=>∃ a C dx fs,x=.ref a∧H1 a=some (.ins C dx fs)∧L2.Cls K C∧L2.NoAttr K C f∧fs.length<1000∧Q σ (upd H1 a (.ins C dx (putF f v fs)))
end
section
variable {P:Program} {w:World} {K:PySem.W.Frag} {mg:Str→Option Value} {base:Heap} {G:bB} {M:aF} {W:WX} {X:Cx} {k n:Nat} {c m:Str} {a e:Expr} {es:List Expr} {ca:E} {cU cs:Es} {pos cH:Pos} {dxs:List Vl}
structure anp (P:Program) (w:World) (K:PySem.W.Frag) (mg:Str→Option Value) (base:Heap) (G:bB) (M:aF) (k:Nat) (c m:Str) (n:Nat) (dxs:List Vl):Prop where
 ex:∃ (f:Addr) (fd:FuncData) (ps:List Str) (ds:List Value) (dvs:List V),qu P w K mg base k f fd ps (spI G M n (dot c m))∧L2.Cls K (G.cl c)∧Meth K (G.cl c) m f∧Binds K fd ps ds∧Vals dvs ds∧Az G dxs dvs
end
section
variable {M:aF} {cs:Cs} {η η1:Sg} {S S1 S2 S3 T T2:Hs} {P:Out→Prop} {e a1 a2:E} {x y z x2:Vl} {xs ys:List Vl} {f1 f2:Str} {i:Nat} {t:Tg}
end
end Oz
namespace Oz
open PySem PySem.Spec L2 PyProof.Rows
section
variable {G:bB} {k n:Nat} {X:Cx} {M:aF} {W:WX} {f C:Addr} {fd:FuncData} {ps:List Str} {sp:Sp} {dvs:List V} {ks:List Str} {mv:List Value}
end
section
variable {P:Program} {w:World} {K:PySem.W.Frag} {mg:Str→Option Value} {base:Heap} {G:bB} {M:aF} {W:WX} {X:Cx} {k n:Nat} {c m:Str} {a e:Expr} {es:List Expr} {kws:List Keyword} {ca:E} {cU kes cs:Es} {pos cH:Pos} {dxs:List Vl} {ks:List Str}
structure anT (P:Program) (w:World) (K:PySem.W.Frag) (mg:Str→Option Value) (base:Heap) (G:bB) (M:aF) (k:Nat) (c m:Str) (n:Nat) (ks:List Str) (dxs:List Vl):Prop where
 ex:∃ (f:Addr) (fd:FuncData) (ps:List Str) (mv:List Value) (dvs:List V),qu P w K mg base k f fd ps (spI G M (n+1+ks.length+dxs.length) (dot c m))∧L2.Cls K (G.cl c)∧Meth K (G.cl c) m f∧KBn K fd ps (n+1) ks (fun us ws=>us++ws++mv) (fun vs zs=>vs++zs++dvs)∧Az G dxs dvs
def tMk (X:Cx) (k n m':Nat) (G:bB) (M:aF) (c m:Str) (W:WX) (ca:E) (cU kes:Es) (dxs:List Vl):TE:=fun σ H Q=>∃ ρ η S,bf G ρ H S∧ER G ρ H η σ∧PR G W σ ρ H (ev M ca η S) fun ρ1 H1 x S1=>lH S1 x c m=true∧PR G W σ ρ1 H1 (evs M cU η S1) fun ρ2 H2 xs S2=>xs.length=n∧PR G W σ ρ2 H2 (evs M kes η S2) fun ρ3 H3 ys S3=>ys.length=m'∧PR G W σ ρ3 H3 (M.cal (dot c m) (x::(xs++ys++dxs)) S3) (okR G H3 Q)
end
section
variable {G:bB} {M:aF} {W:WX} {X:Cx} {k:Nat} {a b:Expr} {ca cb:E} {pos:Pos}
end
end Oz
namespace K04
open PySem L2 Oz
def JT:List Str:=["text","least","most","sign"]
def wG:F:=
 (.comp [3] (.cmp .In (.var 3) (.cst (.str "abcdefghijklmnopqrstuvwxyz"))) (.nm 3) (.chars (.var 0)) .nil)
def Kg:Cs:=
 (.cons (.ret (.band (.Ru .LtE .LtE (.var 1) (.b1 .len (.var 0)) (.var 2)) (.b1 .all (.inl wG)))) .nil)
def z7:jU:=⟨3,4,Kg,false⟩
def Ma:List Str:=["names","seen","name","target"]
def iK:Cs:=
 (.cons (.ite (.bor (.pK (.call "is_word" (.cons (.var 2) (.cons (.cst (.int 1)) (.cons (.cst (.int 6)) .nil))))) (.cmp .In (.var 2) (.var 1))) (.cons (.raise "BadName" (.cons (.var 2) .nil)) .nil) .nil) (.cons (.uP (.var 1) (.var 2) (.cst (.bl true))) .nil))
def Mx:Cs:=
 (.cons (.asg (.nm 1) (.Cz (.zq [] .nil))) (.cons (.for_ (.tp (.cons (.nm 2) (.cons (.nm 3) .nil))) (.sq (.var 0)) iK) .nil))
def yF:jU:=⟨1,4,Mx,false⟩
def Kh:List Str:=["word","targets","many","good","target"]
def qN:F:=
 (.comp [4] (.Ru .LtE .LtE (.cst (.int (-1))) (.var 4) (.var 2)) (.nm 4) (.sq (.var 1)) .nil)
def Lf:Cs:=
 (.cons (.ite (.cmp .Eq (.var 0) (.cst (.str "cell"))) (.cons (.asg (.nm 3) (.cmp .Eq (.b1 .len (.var 1)) (.cst (.int 2)))) .nil) (.cons (.asg (.nm 3) (.band (.call "is_word" (.cons (.var 0) (.cons (.cst (.int 2)) (.cons (.cst (.int 8)) .nil)))) (.cmp .LtE (.b1 .len (.var 1)) (.cst (.int 2))))) .nil)) (.cons (.ret (.band (.var 3) (.b1 .all (.inl qN)))) .nil))
def JL:jU:=⟨3,5,Lf,false⟩
def Sh:List Str:=["names","items","found","seen","name","target","at","word","targets"]
def oM:Cs:=
 (.cons (.ite (.cmp .NotIn (.var 5) (.var 3)) (.cons (.uP (.var 3) (.var 5) (.cst (.bl true))) (.cons (.ex (.mut .append (.var 2) (.cons (.var 5) .nil))) .nil)) .nil) .nil)
def tY:Cs:=
 (.cons (.ite (.cmp .NotIn (.var 5) (.var 3)) (.cons (.uP (.var 3) (.var 5) (.cst (.bl true))) (.cons (.ex (.mut .append (.var 2) (.cons (.var 5) .nil))) .nil)) .nil) .nil)
def uI:Cs:=
 (.cons (.asg (.tp (.cons (.nm 7) (.cons (.nm 8) .nil))) (.idx (.var 1) (.bin .Sub (.idx (.var 2) (.var 6)) (.cst (.int 1))))) (.cons (.aug 6 .Add (.cst (.int 1))) (.cons (.for_ (.nm 5) (.sq (.var 8)) tY) .nil)))
def Hl:Cs:=
 (.cons (.asg (.nm 2) (.Cz (.lst .nil))) (.cons (.asg (.nm 3) (.Cz (.zq [Sum.inl (0),Sum.inl (-1)] (.cons (.cst (.bl true)) (.cons (.cst (.bl true)) .nil))))) (.cons (.for_ (.tp (.cons (.nm 4) (.cons (.nm 5) .nil))) (.sq (.inl (.YK (.var 0)))) oM) (.cons (.asg (.nm 6) (.cst (.int 0))) (.cons (.whl (.cmp .Lt (.var 6) (.b1 .len (.var 2))) uI) (.cons (.ret (.var 2)) .nil))))))
def Ew:jU:=⟨2,9,Hl,false⟩
def iD:List Str:=["self","names","items","place","word","targets","name","target","order","anew","at","point","one"]
def iZ:Cs:=
 (.cons (.ite (.pK (.call "is_item" (.cons (.var 4) (.cons (.var 5) (.cons (.b1 .len (.var 2)) .nil))))) (.cons (.raise "BadWeb" (.cons (.var 3) .nil)) .nil) .nil) .nil)
def o8:F:=
 (.comp [6,7] (.Ru .LtE .LtE (.cst (.int (-1))) (.var 7) (.b1 .len (.var 2))) (.tp (.cons (.nm 6) (.cons (.nm 7) .nil))) (.sq (.var 1)) .nil)
def vW:F:=
 (.Ji [10,11] (.var 11) (.var 10) (.tp (.cons (.nm 10) (.cons (.nm 11) .nil))) (.YX (.var 8) 1) .nil)
def wA:F:=
 (.Ji [6,7] (.var 6) (.idx (.var 9) (.var 7)) (.tp (.cons (.nm 6) (.cons (.nm 7) .nil))) (.sq (.inl (.YK (.var 1)))) .nil)
def wz:F:=
 (.comp [12] (.idx (.var 9) (.var 12)) (.nm 12) (.sq (.idx (.idx (.var 2) (.bin .Sub (.var 11) (.cst (.int 1)))) (.cst (.int 1)))) .nil)
def oV:F:=
 (.comp [11] (.tup (.cons (.idx (.idx (.var 2) (.bin .Sub (.var 11) (.cst (.int 1)))) (.cst (.int 0))) (.cons (.b1 .tuple (.inl wz)) .nil))) (.nm 11) (.sq (.var 8)) .nil)
def rH:Cs:=
 (.cons (.ex (.call "need_names" (.cons (.var 1) .nil))) (.cons (.for_ (.tp (.cons (.nm 3) (.cons (.tp (.cons (.nm 4) (.cons (.nm 5) .nil))) .nil))) (.YX (.var 2) 0) iZ) (.cons (.ite (.pK (.b1 .all (.inl o8))) (.cons (.raise "BadWeb" (.cons (.neg (.cst (.int 1))) .nil)) .nil) .nil) (.cons (.ite (.bor (.cmp .Gt (.b1 .len (.var 1)) (.cst (.int 6))) (.cmp .Gt (.b1 .len (.var 2)) (.cst (.int 200)))) (.cons (.raise "BadWeb" (.cons (.cst .non) .nil)) .nil) .nil) (.cons (.asg (.nm 8) (.call "met_from" (.cons (.var 1) (.cons (.var 2) .nil)))) (.cons (.ite (.cmp .Lt (.b1 .len (.var 8)) (.b1 .len (.var 2))) (.cons (.raise "BadWeb" (.cons (.cst .non) .nil)) .nil) .nil) (.cons (.asg (.nm 9) (.Cz vW)) (.cons (.Vs (.var 9) (.cst (.int 0)) (.var 9) (.cst (.int (-1))) (.tup (.cons (.cst (.int 0)) (.cons (.cst (.int (-1))) .nil)))) (.cons (.fset (.var 0) "leads" (.inl wA)) (.cons (.fset (.var 0) "spots" (.inl oV)) .nil))))))))))
def rK:jU:=⟨3,13,rH,false⟩
def Tq:List Str:=["self","other"]
def Ft:Cs:=
 (.cons (.ret (.band (.isC "Web" (.var 1)) (.band (.cmp .Eq (.fld (.var 0) "leads") (.fld (.var 1) "leads")) (.cmp .Eq (.fld (.var 0) "spots") (.fld (.var 1) "spots"))))) .nil)
def Gk:jU:=⟨2,2,Ft,false⟩
def M5:List Str:=["self"]
def yj:Cs:=
 (.cons (.ret (.b1 .str (.call "web_text" (.cons (.fld (.var 0) "leads") (.cons (.fld (.var 0) "spots") .nil))))) .nil)
def yf:jU:=⟨1,1,yj,false⟩
def Cr:List Str:=["self"]
abbrev rR:Cs:=
 (.cons (.Yq (.itl (.fld (.var 0) "leads"))) .nil)
def sO:jU:=⟨1,1,rR,false⟩
def Ck:List Str:=["self"]
abbrev su:Cs:=
 (.cons (.Yq (.cpy (.fld (.var 0) "spots"))) .nil)
def sS:jU:=⟨1,1,su,false⟩
def ahb:List Str:=["target"]
def aba:Cs:=
 (.cons (.ite (.cmp .Eq (.var 0) (.cst (.int 0))) (.cons (.ret (.cst (.str "-"))) .nil) .nil) (.cons (.ret (.ite (.cmp .Eq (.var 0) (.cst (.int (-1)))) (.cst (.str "*")) (.b1 .str (.var 0)))) .nil))
def acg:jU:=⟨1,1,aba,false⟩
def xH:List Str:=["leads","spots","words","name","target","at","word","targets","inner"]
def uO:F:=
 (.yg [3,4] (.fs (.cons (.var 3) (.cons (.cst (.str "=")) (.cons (.call "mark" (.cons (.var 4) .nil)) .nil)))) (.tp (.cons (.nm 3) (.cons (.nm 4) .nil))) 0 .nil)
def uQ:F:=
 (.comp [4] (.call "mark" (.cons (.var 4) .nil)) (.nm 4) (.sq (.var 7)) .nil)
def ux:Cs:=
 (.cons (.asg (.nm 8) (.tm .join (.cst (.str ",")) (.inl uQ))) (.cons (.ex (.mut .append (.var 2) (.cons (.fs (.cons (.var 5) (.cons (.cst (.str ":")) (.cons (.var 6) (.cons (.cst (.str "(")) (.cons (.var 8) (.cons (.cst (.str ")")) .nil))))))) .nil))) .nil))
def DR:Cs:=
 (.cons (.asg (.nm 2) (.Cz uO)) (.cons (.for_ (.tp (.cons (.nm 5) (.cons (.tp (.cons (.nm 6) (.cons (.nm 7) .nil))) .nil))) (.YX (.var 1) 1) ux) (.cons (.ret (.ite (.cmp .Gt (.b1 .len (.var 2)) (.cst (.int 0))) (.tm .join (.cst (.str " ")) (.var 2)) (.cst (.str "empty")))) .nil)))
def GP:jU:=⟨2,9,DR,false⟩
def BV:List Str:=["word","sign"]
abbrev jH:F:=
 (.comp [1] (.cmp .In (.var 1) (.cst (.str "0123456789"))) (.nm 1) (.chars (.var 0)) .nil)
abbrev jx:Cs:=
 (.cons (.ite (.cmp .Eq (.var 0) (.cst (.str "-"))) (.cons (.ret (.cst (.int 0))) .nil) .nil) (.cons (.ite (.cmp .Eq (.var 0) (.cst (.str "*"))) (.cons (.ret (.cst (.int (-1)))) .nil) .nil) (.cons (.ite (.bor (.pK (.Ru .LtE .LtE (.cst (.int 1)) (.b1 .len (.var 0)) (.cst (.int 3)))) (.pK (.b1 .all (.inl jH)))) (.cons (.raise "BadText" .nil) .nil) .nil) (.cons (.ret (.b1 .int (.var 0))) .nil))))
def uM:jU:=⟨1,2,jx,false⟩
def Bq:List Str:=["text","word","bracket","rest","inner","one"]
abbrev fH:F:=
 (.V9 [5] (.call "read_mark" (.cons (.var 5) .nil)) (.nm 5) (.sq (.inl (.split (.var 4) (.cst (.str ","))))))
abbrev lG:Cs:=
 (.cons (.asg (.tp (.cons (.nm 1) (.cons (.nm 2) (.cons (.nm 3) .nil)))) (.tm .part (.var 0) (.cst (.str "(")))) (.cons (.ite (.bor (.cmp .Eq (.var 2) (.cst (.str ""))) (.cmp .NotEq (.Cu (.var 3) (.some (.neg (.cst (.int 1)))) .none) (.cst (.str ")")))) (.cons (.raise "BadText" .nil) .nil) .nil) (.cons (.asg (.nm 4) (.Cu (.var 3) .none (.some (.neg (.cst (.int 1)))))) (.cons (.ret (.tup (.cons (.var 1) (.cons (.ite (.cmp .NotEq (.var 4) (.cst (.str ""))) (.b1 .tuple (.inl fH)) (.tup .nil)) .nil)))) .nil))))
def lF:jU:=⟨1,6,lG,false⟩
def U3:List Str:=["text","names","items","word","name","sign","rest","number","colon","item","found"]
abbrev cD:Cs:=
 (.cons (.asg (.tp (.cons (.nm 4) (.cons (.nm 5) (.cons (.nm 6) .nil)))) (.tm .part (.var 3) (.cst (.str "=")))) (.cons (.ite (.cmp .Eq (.var 5) (.cst (.str "="))) (.cons (.ex (.mut .append (.var 1) (.cons (.tup (.cons (.var 4) (.cons (.call "read_mark" (.cons (.var 6) .nil)) .nil))) .nil))) .nil) (.cons (.asg (.tp (.cons (.nm 7) (.cons (.nm 8) (.cons (.nm 9) .nil)))) (.tm .part (.var 3) (.cst (.str ":")))) (.cons (.ite (.cmp .NotEq (.var 8) (.cst (.str ":"))) (.cons (.raise "BadText" .nil) .nil) .nil) (.cons (.ex (.mut .append (.var 2) (.cons (.call "read_item" (.cons (.var 9) .nil)) .nil))) .nil)))) .nil))
abbrev tH:Cs:=
 (.cons (.asg (.nm 10) (.inl (.new "Web" (.cons (.var 1) (.cons (.var 2) .nil))))) .nil)
abbrev DP:Cs:=
 (.cons (.par 1 2 (.Cz (.lst .nil)) (.Cz (.lst .nil))) (.cons (.for_ (.nm 3) (.sq (.ite (.cmp .Eq (.var 0) (.cst (.str "empty"))) (.inl (.lst .nil)) (.inl (.split (.var 0) (.cst (.str " ")))))) cD) (.cons (.Tv tH ["BadName","BadWeb"] (.cons (.raise "BadText" .nil) .nil)) (.cons (.ite (.cmp .NotEq (.Ko "Web" (.var 10)) (.var 0)) (.cons (.raise "BadText" .nil) .nil) .nil) (.cons (.ret (.var 10)) .nil)))))
def wL:jU:=⟨1,11,DP,false⟩
def aeC:List Str:=["_law_script","_law_k","_law_base","_law_one"]
def DN:Cs:=
 (.cons (.asg (.nm 2) (.bin .Mod (.bin .Add (.bin .Mult (.var 2) (.cst (.int 31))) (.var 3)) (.cst (.int 1000003)))) .nil)
def ym:Cs:=
 (.cons (.ite (.cmp .Lt (.var 1) (.b1 .len (.var 0))) (.cons (.ret (.idx (.var 0) (.var 1))) .nil) .nil) (.cons (.asg (.nm 2) (.cst (.int 17))) (.cons (.for_ (.nm 3) (.sq (.var 0)) DN) (.cons (.ret (.bin .Mod (.bin .Mult (.bin .Mult (.bin .Add (.var 2) (.cst (.int 1))) (.bin .Add (.var 1) (.cst (.int 3)))) (.cst (.int 7919))) (.cst (.int 2147483629)))) .nil))))
def Ws:jU:=⟨2,4,ym,false⟩
def Xx:List Str:=["_law_script","_law_k","_law_sizes","_law_cell_here","_law_out","_law_rest","_law_size","_law_one","_law_j","_law_two"]
def xM:Cs:=
 (.cons (.ex (.mut .append (.var 4) (.cons (.bin .Mod (.var 5) (.var 6)) .nil))) (.cons (.asg (.nm 5) (.bin .FloorDiv (.var 5) (.var 6))) .nil))
def wU:Cs:=
 (.cons (.asg (.nm 7) (.bin .Mod (.bin .Add (.bin .Mult (.var 7) (.cst (.int 48271))) (.bin .Mult (.cst (.int 10007)) (.bin .Add (.var 8) (.cst (.int 1))))) (.cst (.int 2147483629)))) (.cons (.asg (.nm 9) (.bin .Mod (.bin .Add (.bin .Add (.bin .Mult (.var 7) (.var 7)) (.bin .Mult (.cst (.int 69621)) (.var 7))) (.var 8)) (.cst (.int 2147483563)))) (.cons (.ex (.mut .append (.var 4) (.cons (.bin .Mod (.bin .FloorDiv (.var 9) (.cst (.int 11))) (.idx (.var 2) (.var 8))) .nil))) .nil)))
def pQ:Cs:=
 (.cons (.asg (.nm 3) (.call "_law_cell" (.cons (.var 0) (.cons (.var 1) .nil)))) (.cons (.asg (.nm 4) (.Cz (.lst .nil))) (.cons (.ite (.cmp .GtE (.var 3) (.bin .Pow (.cst (.int 10)) (.cst (.int 18)))) (.cons (.asg (.nm 5) (.bin .Sub (.var 3) (.bin .Pow (.cst (.int 10)) (.cst (.int 18))))) (.cons (.for_ (.nm 6) (.sq (.var 2)) xM) (.cons (.ret (.var 4)) .nil))) .nil) (.cons (.asg (.nm 7) (.bin .Mod (.var 3) (.cst (.int 2147483647)))) (.cons (.for_ (.nm 8) (.yC (.b1 .len (.var 2))) wU) (.cons (.ret (.var 4)) .nil))))))
def JD:jU:=⟨3,10,pQ,false⟩
def aen:List Str:=["_law_one","_law_other"]
def N5:Cs:=
 (.cons (.ite (.isD (.var 1)) (.cons .bad .nil) .nil) (.cons (.ret (.band (.cmp .Eq (.var 0) (.var 1)) (.cmp .Eq (.b1 .repr (.var 0)) (.b1 .repr (.var 1))))) .nil))
def VN:jU:=⟨2,2,N5,false⟩
def af1:List Str:=["_law_e","_law_rows","_law_words","_law_at","_law_outer","_law_due"]
abbrev aaX:Cs:=
 (.cons (.asg (.nm 1) (.inl (.lst (.cons (.xP "BadName" (.var 0)) (.cons (.xP "BadWeb" (.var 0)) (.cons (.xP "Full" (.var 0)) (.cons (.xP "BadText" (.var 0)) .nil))))))) (.cons (.asg (.nm 1) (.inl (.cat (.var 1) (.inl (.lst (.cons (.xP "BadPoints" (.var 0)) (.cons (.xP "BadRule" (.var 0)) (.cons (.xP "Groundless" (.var 0)) .nil)))))))) (.cons (.asg (.nm 1) (.inl (.cat (.var 1) (.inl (.lst (.cons (.xP "BadItem" (.var 0)) (.cons (.xP "BadRow" (.var 0)) (.cons (.xP "BadLoftName" (.var 0)) (.cons (.xP "BadPage" (.var 0)) .nil))))))))) (.cons (.asg (.nm 1) (.inl (.cat (.var 1) (.inl (.lst (.cons (.xP "Shut" (.var 0)) (.cons (.xP "NoName" (.var 0)) (.cons (.xP "NoShape" (.var 0)) (.cons (.xP "NoRow" (.var 0)) .nil))))))))) (.cons (.asg (.nm 1) (.inl (.cat (.var 1) (.inl (.lst (.cons (.xP "NoProgram" (.var 0)) (.cons (.xP "NoNumber" (.var 0)) (.cons (.xP "Taken" (.var 0)) (.cons (.xP "Nothing" (.var 0)) .nil))))))))) (.cons (.asg (.nm 2) (.cst (.str "BadName BadWeb Full BadText BadPoints BadRule Groundless BadItem BadRow "))) (.cons (.asg (.nm 2) (.bin .Add (.var 2) (.cst (.str "BadLoftName BadPage Shut NoName NoShape NoRow NoProgram NoNumber Taken Nothing")))) (.cons (.ite (.cmp .NotEq (.aaL (.var 1) (.cst (.bl true))) (.cst (.int 1))) (.cons (.ret (.cst (.str "several"))) .nil) .nil) (.cons (.asg (.nm 3) (.ab2 (.var 1) (.cst (.bl true)))) (.cons (.asg (.nm 4) (.inl (.lst (.cons (.xP "OsierError" (.var 0)) (.cons (.xP "Missing" (.var 0)) (.cons (.xP "ValueError" (.var 0)) .nil)))))) (.cons (.asg (.nm 4) (.inl (.cat (.var 4) (.inl (.lst (.cons (.xP "LookupError" (.var 0)) (.cons (.xP "KeyError" (.var 0)) (.cons (.xP "IndexError" (.var 0)) .nil)))))))) (.cons (.asg (.nm 5) (.inl (.lst (.cons (.cmp .Lt (.var 3) (.cst (.int 12))) (.cons (.Ru .Lt .Lt (.cst (.int 11)) (.var 3) (.cst (.int 17))) (.cons (.cmp .Lt (.var 3) (.cst (.int 12))) (.cons (.cmp .Gt (.var 3) (.cst (.int 11))) (.cons (.cmp .Eq (.var 3) (.cst (.int 17))) (.cons (.cmp .Eq (.var 3) (.cst (.int 18))) .nil))))))))) (.cons (.ret (.ite (.cmp .Eq (.var 4) (.var 5)) (.idx (.inl (.split (.var 2) (.cst (.str " ")))) (.var 3)) (.cst (.str "elsewhere")))) .nil)))))))))))))
def T8:jU:=⟨1,6,aaX,false⟩
def yE:List Str:=["_law_script","_law_k","_law_many","_law_found","_law_letters","_law_j","_law_one","_law_two","_law_size","_law_place","_law_rest","_law_i","_law_sort_of","_law_name","_law_tries","_law_tail","_law_one_more"]
def KH:F:=
 (.comp [11] (.idx (.var 4) (.bin .Mod (.bin .Add (.bin .Add (.var 6) (.bin .Mult (.var 11) (.var 7))) (.bin .Mult (.cst (.int 3)) (.var 5))) (.cst (.int 26)))) (.nm 11) (.yC (.var 8)) .nil)
def zJ:F:=
 (.comp [15] (.bin .Add (.bin .Add (.cst (.str "z")) (.idx (.var 4) (.var 5))) (.var 15)) (.nm 15) (.chars (.cst (.str "ijklmnopqrst"))) .nil)
def Ai:F:=
 (.comp [16] (.var 16) (.nm 16) (.sq (.var 14)) (.cons (.cmp .NotIn (.var 16) (.var 3)) .nil))
def pW:Cs:=
 (.cons (.asg (.tp (.cons (.nm 6) (.cons (.nm 7) (.cons (.nm 8) (.cons (.nm 9) .nil))))) (.call "_law_digits" (.cons (.var 0) (.cons (.bin .Add (.var 1) (.bin .Mod (.var 5) (.cst (.int 2)))) (.cons (.inl (.lst (.cons (.cst (.int 26)) (.cons (.cst (.int 26)) (.cons (.cst (.int 6)) (.cons (.cst (.int 5)) .nil)))))) .nil))))) (.cons (.asg (.nm 10) (.tm .join (.cst (.str "")) (.inl KH))) (.cons (.asg (.nm 12) (.idx (.var 4) (.bin .Mod (.bin .Add (.bin .Add (.var 6) (.bin .Mult (.cst (.int 7)) (.var 5))) (.cst (.int 11))) (.cst (.int 26))))) (.cons (.asg (.nm 13) (.bin .Add (.bin .Add (.Cu (.var 10) .none (.some (.var 9))) (.var 12)) (.Cu (.var 10) (.some (.var 9)) .none))) (.cons (.ite (.cmp .In (.var 13) (.var 3)) (.cons (.asg (.nm 14) (.inl zJ)) (.cons (.asg (.nm 13) (.idx (.inl Ai) (.cst (.int 0)))) .nil)) .nil) (.cons (.ex (.mut .append (.var 3) (.cons (.var 13) .nil))) .nil))))))
def Eu:Cs:=
 (.cons (.asg (.tp (.cons (.nm 3) (.cons (.nm 4) .nil))) (.tup (.cons (.Cz (.lst .nil)) (.cons (.cst (.str "abcdefghijklmnopqrstuvwxyz")) .nil)))) (.cons (.for_ (.nm 5) (.yC (.var 2)) pW) (.cons (.ret (.var 3)) .nil)))
def PB:jU:=⟨3,17,Eu,false⟩
def age:List Str:=["_law_leads","_law_spots","_law_found","_law_name","_law_k","_law_target"]
def Mj:Cs:=
 (.cons (.ite (.band (.cmp .Gt (.idx (.var 0) (.var 3)) (.cst (.int 0))) (.cmp .NotIn (.idx (.var 0) (.var 3)) (.var 2))) (.cons (.ex (.mut .append (.var 2) (.cons (.idx (.var 0) (.var 3)) .nil))) .nil) .nil) .nil)
def Ls:Cs:=
 (.cons (.ite (.band (.cmp .Gt (.var 5) (.cst (.int 0))) (.cmp .NotIn (.var 5) (.var 2))) (.cons (.ex (.mut .append (.var 2) (.cons (.var 5) .nil))) .nil) .nil) .nil)
def MN:Cs:=
 (.cons (.ite (.cmp .Lt (.var 4) (.b1 .len (.var 2))) (.cons (.for_ (.nm 5) (.sq (.idx (.idx (.var 1) (.idx (.var 2) (.var 4))) (.cst (.int 1)))) Ls) .nil) .nil) .nil)
def Zm:Cs:=
 (.cons (.asg (.nm 2) (.Cz (.lst .nil))) (.cons (.for_ (.nm 3) (.sq (.inl (.Yc (.var 0)))) Mj) (.cons (.for_ (.nm 4) (.yC (.b1 .len (.var 1))) MN) (.cons (.ret (.var 2)) .nil))))
def ab6:jU:=⟨2,6,Zm,false⟩
def yI:List Str:=["_law_leads","_law_spots","_law_order","_law_anew","_law_k","_law_names_here","_law_name","_law_target","_law_one"]
def Bg:Cs:=
 (.cons (.uP (.var 3) (.idx (.var 2) (.var 4)) (.bin .Add (.var 4) (.cst (.int 1)))) .nil)
def z9:F:=
 (.comp [6] (.tup (.cons (.var 6) (.cons (.idx (.var 3) (.idx (.var 0) (.var 6))) .nil))) (.nm 6) (.sq (.inl (.Yc (.var 0)))) .nil)
def Ld:F:=
 (.comp [7] (.idx (.var 3) (.var 7)) (.nm 7) (.sq (.idx (.idx (.var 1) (.var 8)) (.cst (.int 1)))) .nil)
def Ad:F:=
 (.comp [8] (.tup (.cons (.idx (.idx (.var 1) (.var 8)) (.cst (.int 0))) (.cons (.b1 .tuple (.inl Ld)) .nil))) (.nm 8) (.sq (.var 2)) .nil)
def Ql:Cs:=
 (.cons (.asg (.nm 2) (.call "_law_met" (.cons (.var 0) (.cons (.var 1) .nil)))) (.cons (.asg (.nm 3) (.Cz (.zq [Sum.inl 0] (.cons (.cst (.int 0)) .nil)))) (.cons (.uP (.var 3) (.bin .Sub (.cst (.int 0)) (.cst (.int 1))) (.bin .Sub (.cst (.int 0)) (.cst (.int 1)))) (.cons (.for_ (.nm 4) (.yC (.b1 .len (.var 2))) Bg) (.cons (.asg (.nm 5) (.inl z9)) (.cons (.ret (.tup (.cons (.var 5) (.cons (.inl Ad) .nil)))) .nil))))))
def Pq:jU:=⟨2,9,Ql,false⟩
def acH:List Str:=["_law_web"]
abbrev We:Cs:=
 (.cons (.ite (.pK (.isC "Web" (.var 0))) (.cons (.ret (.cst .non)) .nil) .nil) (.cons (.ret (.tup (.cons (.Zf "Web" "name_rows" (.var 0) .nil) (.cons (.Zf "Web" "item_rows" (.var 0) .nil) .nil)))) .nil))
def Xm:jU:=⟨1,1,We,false⟩
def aeI:List Str:=["_law_target"]
def Wj:Cs:=
 (.cons (.ret (.ite (.cmp .Eq (.var 0) (.cst (.int 0))) (.cst (.str "-")) (.ite (.cmp .Lt (.var 0) (.cst (.int 0))) (.cst (.str "*")) (.b1 .str (.var 0))))) .nil)
def Vx:jU:=⟨1,1,Wj,false⟩
def M8:List Str:=["_law_raw_here","_law_words","_law_name","_law_target","_law_k","_law_word","_law_targets","_law_one"]
def Gp:F:=
 (.comp [2,3] (.bin .Add (.bin .Add (.var 2) (.cst (.str "="))) (.call "_law_mark" (.cons (.var 3) .nil))) (.tp (.cons (.nm 2) (.cons (.nm 3) .nil))) (.sq (.idx (.var 0) (.cst (.int 0)))) .nil)
def Dy:F:=
 (.comp [7] (.call "_law_mark" (.cons (.var 7) .nil)) (.nm 7) (.sq (.var 6)) .nil)
def Hm:Cs:=
 (.cons (.asg (.tp (.cons (.nm 5) (.cons (.nm 6) .nil))) (.idx (.idx (.var 0) (.cst (.int 1))) (.var 4))) (.cons (.ex (.mut .append (.var 1) (.cons (.bin .Add (.bin .Add (.bin .Add (.bin .Add (.bin .Add (.b1 .str (.bin .Add (.var 4) (.cst (.int 1)))) (.cst (.str ":"))) (.var 5)) (.cst (.str "("))) (.tm .join (.cst (.str ",")) (.inl Dy))) (.cst (.str ")"))) .nil))) .nil))
def VJ:Cs:=
 (.cons (.asg (.nm 1) (.Cz Gp)) (.cons (.for_ (.nm 4) (.yC (.b1 .len (.idx (.var 0) (.cst (.int 1))))) Hm) (.cons (.ret (.ite (.cmp .NotEq (.var 1) (.inl (.lst .nil))) (.tm .join (.cst (.str " ")) (.var 1)) (.cst (.str "empty")))) .nil)))
def Wo:jU:=⟨1,8,VJ,false⟩
def agq:List Str:=["_law_script","_law_k","_law_words","_law_most","_law_many","_law_size","_law_lean","_law_turning","_law_names_here","_law_spots","_law_j","_law_word","_law_left","_law_right","_law_far","_law_name","_law_places","_law_targets","_law_leads","_law_one","_law_gone"]
def Dc:Cs:=
 (.cons (.asg (.tp (.cons (.nm 11) (.cons (.nm 12) (.cons (.nm 13) (.cons (.nm 14) .nil))))) (.call "_law_digits" (.cons (.var 0) (.cons (.bin .Add (.bin .Add (.var 1) (.cst (.int 2))) (.var 10)) (.cons (.inl (.lst (.cons (.bin .Add (.b1 .len (.var 2)) (.cst (.int 2))) (.cons (.cst (.int 60)) (.cons (.cst (.int 60)) (.cons (.cst (.int 12)) .nil)))))) .nil))))) (.cons (.asg (.tp (.cons (.nm 15) (.cons (.nm 16) .nil))) (.ite (.cmp .Lt (.var 11) (.b1 .len (.var 2))) (.idx (.var 2) (.var 11)) (.tup (.cons (.cst (.str "cell")) (.cons (.cst (.int 2)) .nil))))) (.cons (.asg (.nm 17) (.Cz (.lst (.cons (.bin .Mod (.var 12) (.bin .Add (.var 5) (.cst (.int 1)))) (.cons (.bin .Mod (.var 13) (.bin .Add (.var 5) (.cst (.int 1)))) .nil))))) (.cons (.ite (.cmp .Eq (.var 14) (.cst (.int 0))) (.cons (.uP (.var 17) (.bin .Mod (.var 12) (.cst (.int 2))) (.bin .Sub (.cst (.int 0)) (.cst (.int 1)))) .nil) .nil) (.cons (.ite (.band (.cmp .Gt (.var 14) (.cst (.int 5))) (.cmp .Gt (.var 6) (.cst (.int 0)))) (.cons (.uP (.var 17) (.bin .Mod (.var 13) (.cst (.int 2))) (.mn (.var 5) (.bin .Add (.var 10) (.cst (.int 2))))) .nil) .nil) (.cons (.uP (.var 9) (.bin .Add (.var 10) (.cst (.int 1))) (.tup (.cons (.var 15) (.cons (.b1 .tuple (.inl (.slc (.var 17) .none (.some (.var 16))))) .nil)))) .nil))))))
def CP:Cs:=
 (.cons (.asg (.tp (.cons (.nm 19) (.cons (.nm 20) .nil))) (.call "_law_digits" (.cons (.var 0) (.cons (.bin .Add (.bin .Add (.var 1) (.cst (.int 3))) (.var 10)) (.cons (.inl (.lst (.cons (.cst (.int 90)) (.cons (.cst (.int 9)) .nil)))) .nil))))) (.cons (.uP (.var 18) (.idx (.var 8) (.var 10)) (.ite (.cmp .Eq (.var 20) (.cst (.int 0))) (.bin .Sub (.cst (.int 0)) (.cst (.int 1))) (.bin .Mod (.bin .Add (.var 19) (.bin .Mult (.var 7) (.var 10))) (.bin .Add (.var 5) (.cst (.int 1)))))) .nil))
def abD:Cs:=
 (.cons (.asg (.tp (.cons (.nm 4) (.cons (.nm 5) (.cons (.nm 6) (.cons (.nm 7) .nil))))) (.call "_law_digits" (.cons (.var 0) (.cons (.var 1) (.cons (.inl (.lst (.cons (.cst (.int 5)) (.cons (.bin .Add (.var 3) (.cst (.int 1))) (.cons (.cst (.int 4)) (.cons (.cst (.int 97)) .nil)))))) .nil))))) (.cons (.asg (.nm 8) (.call "_law_names" (.cons (.var 0) (.cons (.bin .Add (.var 1) (.cst (.int 1))) (.cons (.bin .Add (.cst (.int 1)) (.var 4)) .nil))))) (.cons (.asg (.nm 9) (.Cz (.zq [] .nil))) (.cons (.for_ (.nm 10) (.yC (.var 5)) Dc) (.cons (.asg (.nm 18) (.Cz (.zq [] .nil))) (.cons (.for_ (.nm 10) (.yC (.b1 .len (.var 8))) CP) (.cons (.ite (.band (.cmp .Gt (.var 5) (.cst (.int 0))) (.cmp .Lt (.var 6) (.cst (.int 3)))) (.cons (.uP (.var 18) (.idx (.var 8) (.cst (.int 0))) (.cst (.int 1))) .nil) .nil) (.cons (.ret (.call "_law_canon" (.cons (.var 18) (.cons (.var 9) .nil)))) .nil))))))))
def Z9:jU:=⟨4,21,abD,false⟩
def X8:List Str:=["_law_script","_law_k","_law_text_here","_law_how","_law_place","_law_sign","_law_at","_law_marks","_law_words"]
abbrev Ba:Cs:=
 (.cons (.asg (.tp (.cons (.nm 3) (.cons (.nm 4) (.cons (.nm 5) .nil)))) (.call "_law_digits" (.cons (.var 0) (.cons (.var 1) (.cons (.inl (.lst (.cons (.cst (.int 8)) (.cons (.cst (.int 997)) (.cons (.cst (.int 14)) .nil))))) .nil))))) (.cons (.asg (.nm 6) (.bin .Mod (.var 4) (.bin .Add (.b1 .len (.var 2)) (.cst (.int 1))))) (.cons (.asg (.nm 7) (.cst (.str "0123 =:()-*,a"))) (.cons (.ite (.cmp .Eq (.var 3) (.cst (.int 0))) (.cons (.ret (.bin .Add (.bin .Add (.Cu (.var 2) .none (.some (.var 6))) (.idx (.var 7) (.bin .Mod (.var 5) (.cst (.int 13))))) (.Cu (.var 2) (.some (.var 6)) .none))) .nil) .nil) (.cons (.ite (.cmp .Eq (.var 3) (.cst (.int 1))) (.cons (.ret (.bin .Add (.bin .Add (.Cu (.var 2) .none (.some (.var 6))) (.idx (.var 7) (.bin .Mod (.var 5) (.cst (.int 13))))) (.Cu (.var 2) (.some (.bin .Add (.var 6) (.cst (.int 1)))) .none))) .nil) .nil) (.cons (.ite (.cmp .Eq (.var 3) (.cst (.int 2))) (.cons (.ret (.bin .Add (.Cu (.var 2) .none (.some (.var 6))) (.Cu (.var 2) (.some (.bin .Add (.var 6) (.cst (.int 1)))) .none))) .nil) .nil) (.cons (.ite (.cmp .Eq (.var 3) (.cst (.int 3))) (.cons (.ret (.replL (.var 2) "1" "2" "01" "11" "-" (.bin .Mod (.var 5) (.cst (.int 4))))) .nil) .nil) (.cons (.ite (.cmp .Eq (.var 3) (.cst (.int 4))) (.cons (.asg (.nm 8) (.inl (.split (.var 2) (.cst (.str " "))))) (.cons (.ret (.tm .join (.cst (.str " ")) (.inl (.rev (.var 8))))) .nil)) .nil) (.cons (.ret (.idx (.inl (.lst (.cons (.var 2) (.cons (.bin .Add (.var 2) (.cst (.str " "))) (.cons (.bin .Add (.cst (.str " ")) (.var 2)) (.cons (.cst (.str "")) (.cons (.cst (.str "empty ")) (.cons (.bin .Add (.var 2) (.cst (.str "
"))) (.cons (.Vi (.var 2) " " " ") .nil))))))))) (.bin .Mod (.var 5) (.cst (.int 7))))) .nil)))))))))
def Aq:jU:=⟨3,9,Ba,false⟩
def Z5:List Str:=["_law_text_here","_law_word","_law_found","_law_e"]
abbrev zP:Cs:=
 (.cons (.asg (.nm 2) (.call "read_web" (.cons (.var 0) .nil))) .nil)
abbrev Jj:Cs:=
 (.cons (.asg (.nm 1) (.call "_law_kin" (.cons (.var 3) .nil))) .nil)
abbrev Gn:Cs:=
 (.cons (.asg (.tp (.cons (.nm 1) (.cons (.nm 2) .nil))) (.tup (.cons (.cst (.str "")) (.cons (.cst .non) .nil)))) (.cons (.try_ zP "BadText" 3 Jj) (.cons (.ret (.tup (.cons (.var 1) (.cons (.var 2) .nil)))) .nil)))
def Qz:jU:=⟨1,4,Gn,false⟩
def aj7:List Str:=["_law_script","_law_k","_law_raw_here","_law_text_here","_law_word","_law_found","_law_spoilt_here"]
abbrev Mg:Cs:=
 (.cons (.asg (.nm 2) (.call "_law_raw" (.cons (.var 0) (.cons (.bin .Mult (.cst (.int 12)) (.var 1)) (.cons (.inl (.lst (.cons (.tup (.cons (.cst (.str "list")) (.cons (.cst (.int 0)) .nil))) (.cons (.tup (.cons (.cst (.str "seg")) (.cons (.cst (.int 1)) .nil))) (.cons (.tup (.cons (.cst (.str "dl")) (.cons (.cst (.int 2)) .nil))) .nil))))) (.cons (.cst (.int 13)) .nil)))))) (.cons (.asg (.nm 3) (.call "_law_text" (.cons (.var 2) .nil))) (.cons (.asg (.tp (.cons (.nm 4) (.cons (.nm 5) .nil))) (.call "_law_reads" (.cons (.var 3) .nil))) (.cons (.ite (.bor (.cmp .NotEq (.var 4) (.cst (.str ""))) (.pK (.call "_law_same" (.cons (.call "_law_told" (.cons (.var 5) .nil)) (.cons (.var 2) .nil))))) (.cons (.ret (.cst (.bl false))) .nil) .nil) (.cons (.asg (.nm 6) (.call "_law_spoilt" (.cons (.var 0) (.cons (.bin .Add (.bin .Mult (.cst (.int 12)) (.var 1)) (.cst (.int 11))) (.cons (.var 3) .nil))))) (.cons (.asg (.tp (.cons (.nm 4) (.cons (.nm 5) .nil))) (.call "_law_reads" (.cons (.var 6) .nil))) (.cons (.ite (.cmp .Eq (.var 4) (.cst (.str ""))) (.cons (.ite (.bor (.pK (.isC "Web" (.var 5))) (.pK (.call "_law_same" (.cons (.Ko "Web" (.var 5)) (.cons (.var 6) .nil))))) (.cons (.ret (.cst (.bl false))) .nil) .nil) (.cons (.ite (.pK (.call "_law_same" (.cons (.call "_law_text" (.cons (.tup (.cons (.Zf "Web" "name_rows" (.var 5) .nil) (.cons (.Zf "Web" "item_rows" (.var 5) .nil) .nil))) .nil)) (.cons (.var 6) .nil)))) (.cons (.ret (.cst (.bl false))) .nil) .nil) .nil)) (.cons (.ite (.bor (.cmp .NotEq (.var 4) (.cst (.str "BadText"))) (.cmp .Eq (.var 6) (.var 3))) (.cons (.ret (.cst (.bl false))) .nil) .nil) .nil)) .nil)))))))
abbrev Xd:Cs:=
 (.cons (.for_ (.nm 1) (.yC (.cst (.int 5))) Mg) (.cons (.ret (.oeq "Web" false (.idx (.call "_law_reads" (.cons (.cst (.str "empty")) .nil)) (.cst (.int 1))) (.inl (.new "Web" (.cons (.cst (.tup [])) (.cons (.cst (.tup [])) .nil)))))) .nil))
def ajF:jU:=⟨1,7,Xd,false⟩
def dfn:Str→Option jU:=afh (dl "is_word" z7<| dl "need_names" yF<| dl "is_item" JL<| dl "met_from" Ew<| dl (dot "Web" "__init__") rK<| dl (dot "Web" "__eq__") Gk<| dl (dot "Web" "__repr__") yf<| dl (dot "Web" "name_rows") sO<| dl (dot "Web" "item_rows") sS<| dl "mark" acg<| dl "web_text" GP<| dl "read_mark" uM<| dl "read_item" lF<| dl "read_web" wL<| dl "_law_cell" Ws<| dl "_law_digits" JD<| dl "_law_same" VN<| dl "_law_kin" T8<| dl "_law_names" PB<| dl "_law_met" ab6<| dl "_law_canon" Pq<| dl "_law_told" Xm<| dl "_law_mark" Vx<| dl "_law_text" Wo<| dl "_law_raw" Z9<| dl "_law_spoilt" Aq<| dl "_law_reads" Qz<| dl "law" ajF [])
def X4:List Str:=["self","name"]
def Zh:List Str:=["self","place"]
def kdf (q:Str):Option (List (Str × Vl)):=none
def AS:List Str:=["BadItem","BadLoftName","BadName","BadPage","BadPoints","BadRow","BadRule","BadText","BadWeb","Full","Groundless","IndexError","KeyError","LookupError","Missing","NoName","NoNumber","NoProgram","NoRow","NoShape","Nothing","OsierError","Shut","Taken","ValueError"]
def XT:List (Str × List Str):=[("BadName",["BadName","OsierError","ValueError"]),("BadWeb",["BadWeb","OsierError","ValueError"]),("BadText",["BadText","OsierError","ValueError"])]
def XF:List (Str × Option Str):=[("BadName",some "name"),("BadWeb",some "place"),("BadText",none)]
abbrev Yx:Str→Str→Option Bool:=subT AS XT
abbrev xif:Str→Option (Option Str):=zb XF
noncomputable abbrev Mn (n:Nat):aF:=mach kdf dfn 1000 Yx xif n
theorem nW (n:Nat):(Mn n).xi ("BadName":Str)=some (some ("name":Str)):=by rw [Nm];kernel_rfl
theorem eG (n:Nat):(Mn n).xi ("BadWeb":Str)=some (some ("place":Str)):=by rw [Nm];kernel_rfl
theorem gQ (n:Nat):(Mn n).xi ("BadText":Str)=some none:=by rw [Nm];kernel_rfl
abbrev UT (k:Str) (d:jU):Prop:=∀ (n:Nat) (xs:List Vl) (S:Hs),(Mn (n+1)).cal k xs S=gK (Mn n) d xs S
theorem Ku:UT ("is_word") z7:=fun _ xs S=>bH (by kernel_rfl) xs S
theorem qU:UT ("need_names") yF:=fun _ xs S=>bH (by kernel_rfl) xs S
theorem JF:UT ("is_item") JL:=fun _ xs S=>bH (by kernel_rfl) xs S
theorem Hq:UT ("met_from") Ew:=fun _ xs S=>bH (by kernel_rfl) xs S
theorem qw:UT (dot "Web" "__init__") rK:=fun _ xs S=>bH (by kernel_rfl) xs S
theorem Ec:UT (dot "Web" "__eq__") Gk:=fun _ xs S=>bH (by kernel_rfl) xs S
theorem yP:UT (dot "Web" "__repr__") yf:=fun _ xs S=>bH (by kernel_rfl) xs S
theorem rW:UT (dot "Web" "name_rows") sO:=fun _ xs S=>bH (by kernel_rfl) xs S
theorem sW:UT (dot "Web" "item_rows") sS:=fun _ xs S=>bH (by kernel_rfl) xs S
theorem aaR:UT ("mark") acg:=fun _ xs S=>bH (by kernel_rfl) xs S
theorem Hg:UT ("web_text") GP:=fun _ xs S=>bH (by kernel_rfl) xs S
theorem BX:UT ("read_mark") uM:=fun _ xs S=>bH (by kernel_rfl) xs S
theorem Bu:UT ("read_item") lF:=fun _ xs S=>bH (by kernel_rfl) xs S
theorem Ge:UT ("read_web") wL:=fun _ xs S=>bH (by kernel_rfl) xs S
theorem Oa:UT ("_law_cell") Ws:=fun _ xs S=>bH (by kernel_rfl) xs S
theorem zW:UT ("_law_digits") JD:=fun _ xs S=>bH (by kernel_rfl) xs S
theorem Xe:UT ("_law_same") VN:=fun _ xs S=>bH (by kernel_rfl) xs S
theorem abl:UT ("_law_kin") T8:=fun _ xs S=>bH (by kernel_rfl) xs S
theorem Pa:UT ("_law_names") PB:=fun _ xs S=>bH (by kernel_rfl) xs S
theorem abZ:UT ("_law_met") ab6:=fun _ xs S=>bH (by kernel_rfl) xs S
theorem Q9:UT ("_law_canon") Pq:=fun _ xs S=>bH (by kernel_rfl) xs S
theorem Xi:UT ("_law_told") Xm:=fun _ xs S=>bH (by kernel_rfl) xs S
theorem VH:UT ("_law_mark") Vx:=fun _ xs S=>bH (by kernel_rfl) xs S
theorem Vf:UT ("_law_text") Wo:=fun _ xs S=>bH (by kernel_rfl) xs S
theorem abf:UT ("_law_raw") Z9:=fun _ xs S=>bH (by kernel_rfl) xs S
theorem JR:UT ("_law_spoilt") Aq:=fun _ xs S=>bH (by kernel_rfl) xs S
theorem GF:UT ("_law_reads") Qz:=fun _ xs S=>bH (by kernel_rfl) xs S
end K04
set_option maxHeartbeats 8000000
namespace K04
open PySem L2 Oz PyProof.Rows
def jB (i:Nat):Stmt:=PySem.Challenge.pw_osier_k04_texts_of_webs_read.main.body.getD i (.Pass ⟨0,0,0,0⟩)
abbrev uX:Stmt:=jB 30
abbrev rC:Stmt:=jB 31
abbrev u5:Stmt:=jB 32
abbrev wZ:Stmt:=jB 33
abbrev bG:Stmt:=inClass (jB 34) 0
theorem Iw:FnScope iD ["self","names","items"] (defScope bG):=⟨rfl,rfl,rfl,by decide+kernel,rfl,by decide+kernel,by decide+kernel⟩
abbrev xF:Stmt:=inClass (jB 34) 1
abbrev qG:Stmt:=inClass (jB 34) 3
abbrev lO:Stmt:=inClass (jB 34) 4
abbrev lV:Stmt:=inClass (jB 34) 5
abbrev TJ:Stmt:=jB 35
abbrev oE:Stmt:=jB 36
abbrev oH:Stmt:=jB 37
abbrev oR:Stmt:=jB 38
abbrev xj:Stmt:=jB 39
abbrev MF:Stmt:=jB 41
abbrev Ag:Stmt:=jB 42
abbrev MJ:Stmt:=jB 43
abbrev oh:Stmt:=jB 44
theorem adI:FnScope af1 ["_law_e"] (defScope oh):=⟨rfl,rfl,rfl,by decide+kernel,rfl,by decide+kernel,by decide+kernel⟩
abbrev qd:Stmt:=jB 45
abbrev Uj:Stmt:=jB 46
abbrev pU:Stmt:=jB 47
abbrev Ot:Stmt:=jB 48
abbrev Oi:Stmt:=jB 49
abbrev zp:Stmt:=jB 50
abbrev Tu:Stmt:=jB 51
abbrev Bl:Stmt:=jB 52
abbrev Ek:Stmt:=jB 53
abbrev uf:Stmt:=jB 54
theorem ZP:FnScope aj7 ["_law_script"] (defScope uf):=⟨rfl,rfl,rfl,by decide+kernel,rfl,by decide+kernel,by decide+kernel⟩
abbrev zM:Stmt:=inClass (jB 3) 0
abbrev CK:Stmt:=inClass (jB 4) 0
structure Fx (w:World) (mg:Str→Option Value) (G:bB) where
 iw:mg "len"=none
 O5:mg "all"=none
 yJ:mg "tuple"=none
 Hf:mg "repr"=none
 Qh:mg "str"=none
 aft:mg "int"=none
 aH:mg "isinstance"=none
 abx:mg "dict"=none
 Uk:mg "list"=none
 tW:mg "sorted"=none
 km:mg "range"=none
 oO:mg "enumerate"=none
 aeK:mg "min"=none
 zA:mg "ValueError"=none
 wC:mg "LookupError"=none
 G8:mg "KeyError"=none
 xY:mg "IndexError"=none
 zV:V
 Ae:Value
 J9:mg "FIGURES"=some Ae
 Ju:RelV zV Ae
 JS:∀ ρ H,VR G ρ H (.str "0123456789") zV
 S8:V
 RD:Value
 uB:mg "GONE"=some RD
 tD:RelV S8 RD
 ue:∀ ρ H,VR G ρ H (.int (-1)) S8
 zN:V
 Af:Value
 K8:mg "LETTERS"=some Af
 Kc:RelV zN Af
 Jo:∀ ρ H,VR G ρ H (.str "abcdefghijklmnopqrstuvwxyz") zN
 qP:V
 qR:Value
 xZ:mg "MOST_NAMES"=some qR
 yq:RelV qP qR
 yG:∀ ρ H,VR G ρ H (.int 6) qP
 pA:V
 o5:Value
 v5:mg "MOST_POINTS"=some o5
 vY:RelV pA o5
 vO:∀ ρ H,VR G ρ H (.int 200) pA
 Bj:V
 Ar:Value
 mW:mg "NOTHING"=some Ar
 mV:RelV Bj Ar
 mX:∀ ρ H,VR G ρ H (.int 0) Bj
 hA:∀ c,zR G.K (G.cl c)
 he:G.er=none
 qQ:Addr
 Fj:mg "BadItem"=some (.ref qQ)
 jR:Addr
 ug:mg "BadLoftName"=some (.ref jR)
 m7:Addr
 xm:mg "BadName"=some (.ref m7)
 rM:Addr
 Fg:mg "BadPage"=some (.ref rM)
 mQ:Addr
 xU:mg "BadPoints"=some (.ref mQ)
 uZ:Addr
 Lh:mg "BadRow"=some (.ref uZ)
 qD:Addr
 El:mg "BadRule"=some (.ref qD)
 nq:Addr
 xr:mg "BadText"=some (.ref nq)
 pJ:Addr
 Be:mg "BadWeb"=some (.ref pJ)
 Dq:Addr
 Wt:mg "Full"=some (.ref Dq)
 lB:Addr
 v9:mg "Groundless"=some (.ref lB)
 rQ:Addr
 Eh:mg "Missing"=some (.ref rQ)
 vC:Addr
 Jx:mg "NoName"=some (.ref vC)
 oJ:Addr
 Bo:mg "NoNumber"=some (.ref oJ)
 mK:Addr
 yO:mg "NoProgram"=some (.ref mK)
 yQ:Addr
 Rc:mg "NoRow"=some (.ref yQ)
 qM:Addr
 FT:mg "NoShape"=some (.ref qM)
 qX:Addr
 Ij:mg "Nothing"=some (.ref qX)
 lu:Addr
 v4:mg "OsierError"=some (.ref lu)
 Di:Addr
 U7:mg "Shut"=some (.ref Di)
 yV:Addr
 Qe:mg "Taken"=some (.ref yV)
 Ef:∀ n,HX G (Mn n) "BadItem" (.ref qQ)
 uH:∀ n,HX G (Mn n) "BadLoftName" (.ref jR)
 Fp:∀ n,HX G (Mn n) "BadName" (.ref m7)
 En:∀ n,HX G (Mn n) "BadPage" (.ref rM)
 yw:∀ n,HX G (Mn n) "BadPoints" (.ref mQ)
 KD:∀ n,HX G (Mn n) "BadRow" (.ref uZ)
 HR:∀ n,HX G (Mn n) "BadRule" (.ref qD)
 Gf:∀ n,HX G (Mn n) "BadText" (.ref nq)
 JH:∀ n,HX G (Mn n) "BadWeb" (.ref pJ)
 Vh:∀ n,HX G (Mn n) "Full" (.ref Dq)
 wj:∀ n,HX G (Mn n) "Groundless" (.ref lB)
 vU:∀ n,HX G (Mn n) "IndexError" (.type "IndexError")
 BP:∀ n,HX G (Mn n) "KeyError" (.type "KeyError")
 tV:∀ n,HX G (Mn n) "LookupError" (.type "LookupError")
 Ff:∀ n,HX G (Mn n) "Missing" (.ref rQ)
 JX:∀ n,HX G (Mn n) "NoName" (.ref vC)
 Bm:∀ n,HX G (Mn n) "NoNumber" (.ref oJ)
 za:∀ n,HX G (Mn n) "NoProgram" (.ref mK)
 QT:∀ n,HX G (Mn n) "NoRow" (.ref yQ)
 Hz:∀ n,HX G (Mn n) "NoShape" (.ref qM)
 Gg:∀ n,HX G (Mn n) "Nothing" (.ref qX)
 vX:∀ n,HX G (Mn n) "OsierError" (.ref lu)
 Vu:∀ n,HX G (Mn n) "Shut" (.ref Di)
 Pk:∀ n,HX G (Mn n) "Taken" (.ref yV)
 wg:∀ n,HX G (Mn n) "ValueError" (.type "ValueError")
 Fb:∀ n,HT G (Mn n) "BadName" (.ref m7)
 GD:∀ n,HT G (Mn n) "BadText" (.ref nq)
 Ke:∀ n,HT G (Mn n) "BadWeb" (.ref pJ)
 Eb:∀ P base,aet P w G.K mg base (G.xl "BadName") "BadName" "name"
 pP:∀ P base,aet P w G.K mg base (G.xl "BadWeb") "BadWeb" "place"
 jW:afR G.K mg (G.xl "BadText") "BadText"
 vz:∀ c,NoAttr G.K (G.cl c) "leads"
 vh:∀ c,NoAttr G.K (G.cl c) "spots"
 abu:IsT G.K (.type "dict") true
 nd:∀ c,PySem.W.kitOne G.K (.ref (G.cl c)) (.type "dict")=some false
 WY:IsT G.K (.ref (G.cl "Web")) false
 CW:PySem.W.kitOne G.K (.ref (G.cl "Web")) (.ref (G.cl "Web"))=some true
 KJ:mg "Web"=some (.ref (G.cl "Web"))
 qj:FP G mg "is_word" uX ["text","least","most"]
 jQ:FP G mg "need_names" rC ["names"]
 qb:FP G mg "is_item" u5 ["word","targets","many"]
 nH:FP G mg "met_from" wZ ["names","items"]
 bO:Addr
 gq:FuncData
 cX:List V
 eV:cX.length=2
 pB:∀ ρ H,au G ρ H [(.tup []),(.tup [])] cX
 mH:FunD G.K "__init__" "Web.__init__" (defArgs bG) (defBody bG) (defScope bG) cX [] bO gq
 jM:PySem.W.findIn G.K (.ref (G.cl "Web")) "__init__"=some (some (.ref bO))
 jN:PySem.W.isFn G.K (.ref bO)=true
 ou:FM G "Web" "__eq__" "Web.__eq__" xF ["self","other"]
 jO:FM G "Web" "__repr__" "Web.__repr__" qG ["self"]
 fJ:FM G "Web" "name_rows" "Web.name_rows" lO ["self"]
 fP:FM G "Web" "item_rows" "Web.item_rows" lV ["self"]
 Hv:FP G mg "mark" TJ ["target"]
 nO:FP G mg "web_text" oE ["leads","spots"]
 lL:FP G mg "read_mark" oH ["word"]
 lJ:FP G mg "read_item" oR ["text"]
 mZ:FP G mg "read_web" xj ["text"]
 yU:FP G mg "_law_cell" MF ["_law_script","_law_k"]
 qm:FP G mg "_law_digits" Ag ["_law_script","_law_k","_law_sizes"]
 yr:FP G mg "_law_same" MJ ["_law_one","_law_other"]
 nM:Addr
 zf:FuncData
 Nv:FunD G.K "_law_kin" "_law_kin" (defArgs oh) (defBody oh) (defScope oh) [] [] nM zf
 ZZ:mg "_law_kin"=some (.ref nM)
 uK:FP G mg "_law_names" qd ["_law_script","_law_k","_law_many"]
 HH:FP G mg "_law_met" Uj ["_law_leads","_law_spots"]
 t8:FP G mg "_law_canon" pU ["_law_leads","_law_spots"]
 yo:FP G mg "_law_told" Ot ["_law_web"]
 yR:FP G mg "_law_mark" Oi ["_law_target"]
 yL:FP G mg "_law_text" zp ["_law_raw_here"]
 DY:FP G mg "_law_raw" Tu ["_law_script","_law_k","_law_words","_law_most"]
 pF:FP G mg "_law_spoilt" Bl ["_law_script","_law_k","_law_text_here"]
 uC:FP G mg "_law_reads" Ek ["_law_text_here"]
 vQ:Addr
 Oj:FuncData
 aat:FunD G.K "law" "law" (defArgs uf) (defBody uf) (defScope uf) [] [] vQ Oj
 ajG:mg "law"=some (.ref vQ)
 Hu:PySem.W.makesIn G.K (G.cl "Web")=true
 Gh:PySem.W.keepIn G.K (.ref (G.cl "Web"))=true
 Ho:PySem.W.findIn G.K (.ref (G.cl "Web")) "__ne__"=some (some (.builtin "object.__ne__"))
 U0:∀ T:String,T="list"∨T="str"∨T="tuple"→PySem.W.notFirst G.K (G.cl "Web") (.type T)=true
theorem Fx.hC {w:World} {mg:Str→Option Value} {G:bB} (R:Fx w mg G) (c:Str):Cls G.K (G.cl c):=(R.hA c).cls
structure ajt (P:Program) (w:World) (mg:Str→Option Value) (base:Heap) (G:bB) (M:aF) (k:Nat):Prop where
 Ro:abr P w G.K mg base G M k "Web" "Web" 0 [] [(.tup []),(.tup [])]
 QV:abr P w G.K mg base G M k "Web" "Web" 2 [] []
 aa6:ais P w G.K mg base G M k "_law_kin" "_law_kin" 1
structure All (P:Program) (w:World) (mg:Str→Option Value) (base:Heap) (G:bB) (M:aF) (k:Nat):Prop extends ajt P w mg base G M k where
 JM:Wq P w mg base G M k "is_word" 3
 Oo:Wq P w mg base G M k "need_names" 1
 YJ:Wq P w mg base G M k "is_item" 3
 Sy:Wq P w mg base G M k "met_from" 2
 ajV:EqM P w G.K mg base G M k "Web"
 afx:RpM P w G.K mg base G M k "Web"
 sV:Met P w G.K mg base G M k "Web" "name_rows" 1
 sE:Met P w G.K mg base G M k "Web" "item_rows" 1
 aac:tK P w mg base G M k "mark" 1
 R5:tK P w mg base G M k "web_text" 2
 Bt:tK P w mg base G M k "read_mark" 1
 QF:tK P w mg base G M k "read_item" 1
 UL:tK P w mg base G M k "read_web" 1
 acK:tK P w mg base G M k "_law_cell" 2
 pZ:tK P w mg base G M k "_law_digits" 3
 MP:tK P w mg base G M k "_law_same" 2
 ab4:tK P w mg base G M k "_law_names" 3
 agY:tK P w mg base G M k "_law_met" 2
 abN:tK P w mg base G M k "_law_canon" 2
 acS:tK P w mg base G M k "_law_told" 1
 WL:tK P w mg base G M k "_law_mark" 1
 Wb:tK P w mg base G M k "_law_text" 1
 agz:tK P w mg base G M k "_law_raw" 4
 Yr:tK P w mg base G M k "_law_spoilt" 3
 GZ:tK P w mg base G M k "_law_reads" 1
section
variable {P:Program} {w:World} {mg:Str→Option Value} {base:Heap} {G:bB} {M:aF} {k:Nat}
theorem ab1 (R:Fx w mg G) (xT:QZ P w G.K mg base k R.bO R.gq ["self","names","items"] (spI G M 3 (dot "Web" "__init__"))) (agA:FnX P w G.K mg base G M k R.nM R.zf ["_law_e"] 1 "_law_kin"):ajt P w mg base G M k where
 Ro:=by
  have Km:R.cX≠[]:=fun e=>by have:=R.eV;rw [e] at this;simp at this
  obtain ⟨mv,hb⟩:=aiX R.mH Km 1 0 (ps:=["self","names","items"]) (fun T kV wW pm an cI ct us its l1 l2=>by
   rw [R.eV] at l2
   match us,its,l1,l2 with
   | [_],[_,_],_,_=>exact ⟨_,rfl,rfl⟩)
  have hl:(R.cX.drop 0).length=2:=by rw [List.length_drop,R.eV]
  exact ⟨R.bO,R.gq,_,mv,R.cX.drop 0,xT,⟨R.Hu,R.jM,R.jN,R.Gh⟩,R.KJ,hb,fun ρ H=>(R.pB ρ H).drop 0⟩
 QV:=by
  have Km:R.cX≠[]:=fun e=>by have:=R.eV;rw [e] at this;simp at this
  obtain ⟨mv,hb⟩:=aiX R.mH Km 3 2 (ps:=["self","names","items"]) (fun T kV wW pm an cI ct us its l1 l2=>by
   rw [R.eV] at l2
   match us,its,l1,l2 with
   | [_,_,_],[_,_],_,_=>exact ⟨_,rfl,rfl⟩)
  have hl:(R.cX.drop 2).length=0:=by rw [List.length_drop,R.eV]
  exact ⟨R.bO,R.gq,_,mv,R.cX.drop 2,xT,⟨R.Hu,R.jM,R.jN,R.Gh⟩,R.KJ,hb,fun ρ H=>(R.pB ρ H).drop 2⟩
 aa6:=⟨R.nM,R.zf,_,agA,R.ZZ,R.Nv.kp,(aef R.Nv fun _ _ _ _ _ _ us hl=>match us,hl with | [_],_=>rfl)⟩
end
section
variable {P:Program} {w:World} {mg:Str→Option Value} {base:Heap} {G:bB} {n:Nat}
theorem Ui (R:Fx w mg G) (A:All P w mg base G (Mn n) (4* n)):PrQ P w mg base G (4* n+4) (Mn (n+1)) 3 "is_word" "is_word" "is_word" uX ["text","least","most"]:=o1N R.he JT (Ku n) fun _ _ _ _ _ _ _ _ g1 g3 hp tk=>
 (PSs.ao (bh (pG (adF g1 (xv 1) (bL g1 .len (by rfl) R.iw (xv 0)) (xv 2)) (abd (bL g1 .all (by rfl) R.O5 (aR (jh (own:=[("sign",3)]) g1 (by decide) (Bb g1 (xv 0)) (blkOk_by (N:=JT) (sc:=defScope uX) (by decide+kernel)) (fun _ _ _ _ _=>(gn (g1.blk _ _ _ _ _) 3)) (fun _ _ _ _ _=>gD) (fun _ _ _ _ _=>(Zd (g1.blk _ _ _ _ _) .In (xv 3) (VP R.K8 R.Kc R.Jo))))))))) PSs.aO)
theorem Ip (R:Fx w mg G) (A:All P w mg base G (Mn n) (4* n)):PrQ P w mg base G (4* n+4) (Mn (n+1)) 1 "need_names" "need_names" "need_names" rC ["names"]:=o1N R.he Ma (qU n) fun _ _ _ _ _ _ _ _ g1 g3 hp tk=>
 (PSs.ao (aG (iy Mp) (gn g1 1)) (PSs.ao (d8 g1 hp (eU g1 (xv 0)) (fB g1 (bj (gn g1 2) (bj (gn g1 3) eZ))) (PSs.ao (bM (w6 (kZ (tv (cvN g1 A.JM tk (eQ (xv 2) (eQ aN (eE aN)))))) (rB (mj g1 .In (xv 2) (xv 1)))).pt (PSs.ao (nj g3 tk (R.Eb _ _) (nW n) (xv 2)) PSs.aO) PSs.aO) (PSs.ao (jc g1 uU (xv 1) (xv 2)) PSs.aO))) PSs.aO))
theorem Rz (R:Fx w mg G) (A:All P w mg base G (Mn n) (4* n)):PrQ P w mg base G (4* n+4) (Mn (n+1)) 3 "is_item" "is_item" "is_item" u5 ["word","targets","many"]:=o1N R.he Kh (JF n) fun _ _ _ _ _ _ _ _ g1 g3 hp tk=>
 (PSs.ao (bM (mj g1 .Eq (xv 0) dF) (PSs.ao (aG (Zd g1 .Eq (bL g1 .len (by rfl) R.iw (xv 1)) aN) (gn g1 3)) PSs.aO) (PSs.ao (aG (pG (cvN g1 A.JM tk (eQ (xv 0) (eQ aN (eE aN)))) (abd (Zd g1 .LtE (bL g1 .len (by rfl) R.iw (xv 1)) aN))) (gn g1 3)) PSs.aO)) (PSs.ao (bh (pG (xv 3) (abd (bL g1 .all (by rfl) R.O5 (aR (jh (own:=[("target",4)]) g1 (by decide) (eU g1 (xv 1)) (blkOk_by (N:=Kh) (sc:=defScope u5) (by decide+kernel)) (fun _ _ _ _ _=>(gn (g1.blk _ _ _ _ _) 4)) (fun _ _ _ _ _=>gD) (fun _ _ _ _ _=>(adF (g1.blk _ _ _ _ _) (VP R.uB R.tD R.ue) (xv 4) (xv 2))))))))) PSs.aO))
theorem Q8 (R:Fx w mg G) (A:All P w mg base G (Mn n) (4* n)):PrQ P w mg base G (4* n+4) (Mn (n+1)) 2 "met_from" "met_from" "met_from" wZ ["names","items"]:=o1N R.he Sh (Hq n) fun _ _ _ _ _ _ _ _ g1 g3 hp tk=>
 (PSs.ao (aG (iy (dY gJ)) (gn g1 2)) (PSs.ao (aG (iy (Vz g1 (pps_cons (aiW R.mW R.mV R.mX) uU (pps_cons (aiW R.uB R.tD R.ue) uU pps_nil)) rfl rfl rfl (by decide) (by decide))) (gn g1 3)) (PSs.ao (d8 g1 hp (eU g1 (aR (V5 g1 (by rfl) R.tW (xv 0)))) (fB g1 (bj (gn g1 4) (bj (gn g1 5) eZ))) (PSs.ao (bM (mj g1 .NotIn (xv 5) (xv 3)) (PSs.ao (jc g1 uU (xv 3) (xv 5)) (PSs.ao (fL (jG g1 .append (.inl rfl) (xv 2) (eE (xv 5)))) PSs.aO)) PSs.aO) PSs.aO)) (PSs.ao (aG aN (gn g1 6)) (PSs.ao (XN g1 hp (mj g1 .Lt (xv 6) (bL g1 .len (by rfl) R.iw (xv 2))) (PSs.ao (aG (ix g1 (xv 1) (aD g1 .Sub (ix g1 (xv 2) (xv 6)) aN)) (fB g1 (bj (gn g1 7) (bj (gn g1 8) eZ)))) (PSs.ao (aem g1 (.inl rfl) (i:=6) (by rfl) (by first | exact Or.inl rfl | exact Or.inr rfl) aN) (PSs.ao (d8 g1 hp (eU g1 (xv 8)) (gn g1 5) (PSs.ao (bM (mj g1 .NotIn (xv 5) (xv 3)) (PSs.ao (jc g1 uU (xv 3) (xv 5)) (PSs.ao (fL (jG g1 .append (.inl rfl) (xv 2) (eE (xv 5)))) PSs.aO)) PSs.aO) PSs.aO)) PSs.aO)))) (PSs.ao (bh (xv 2)) PSs.aO))))))
theorem IK (R:Fx w mg G) (A:All P w mg base G (Mn n) (4* n)):QZ P w G.K mg base (4* n+4) R.bO R.gq ["self","names","items"] (spI G (Mn (n+1)) 3 (dot "Web" "__init__")):=by
 refine aak R.he (k:=4* n+3) (d:=rK) R.mH Iw (qw n) rfl rfl fun cI AA outer s H E _ g3 hp tk=> ?_
 have g1:=g3.le (show 4* n+1≤4* n+3 by omega)
 exact (PSs.ao (fL (cvN g1 A.Oo tk (eE (xv 1)))) (PSs.ao (d8 g1 hp (aej g1 (by rfl) R.oO (eE (xv 2))) (fB g1 (bj (gn g1 3) (bj (fB g1 (bj (gn g1 4) (bj (gn g1 5) eZ))) eZ))) (PSs.ao (bM (kZ (tv (cvN g1 A.YJ tk (eQ (xv 4) (eQ (xv 5) (eE (bL g1 .len (by rfl) R.iw (xv 2)))))))) (PSs.ao (nj g3 tk (R.pP _ _) (eG n) (xv 3)) PSs.aO) PSs.aO) PSs.aO)) (PSs.ao (bM (kZ (tv (bL g1 .all (by rfl) R.O5 (aR (jh (own:=[("name",6),("target",7)]) g1 (by decide) (eU g1 (xv 1)) (blkOk_by (N:=iD) (sc:=defScope bG) (by decide+kernel)) (fun _ _ _ _ _=>(fB (g1.blk _ _ _ _ _) (bj (gn (g1.blk _ _ _ _ _) 6) (bj (gn (g1.blk _ _ _ _ _) 7) eZ)))) (fun _ _ _ _ _=>gD) (fun _ _ _ _ _=>(adF (g1.blk _ _ _ _ _) (VP R.uB R.tD R.ue) (xv 7) (bL (g1.blk _ _ _ _ _) .len (by rfl) R.iw (xv 2))))))))) (PSs.ao (nj g3 tk (R.pP _ _) (eG n) (Mz aN)) PSs.aO) PSs.aO) (PSs.ao (bM (w6 (mj g1 .Gt (bL g1 .len (by rfl) R.iw (xv 1)) (VP R.xZ R.yq R.yG)) (rB (mj g1 .Gt (bL g1 .len (by rfl) R.iw (xv 2)) (VP R.v5 R.vY R.vO)))).pt (PSs.ao (nj g3 tk (R.pP _ _) (eG n) adN) PSs.aO) PSs.aO) (PSs.ao (aG (cvN g1 A.Sy tk (eQ (xv 1) (eE (xv 2)))) (gn g1 8)) (PSs.ao (bM (mj g1 .Lt (bL g1 .len (by rfl) R.iw (xv 8)) (bL g1 .len (by rfl) R.iw (xv 2))) (PSs.ao (nj g3 tk (R.pP _ _) (eG n) adN) PSs.aO) PSs.aO) (PSs.ao (aG (iy (Qp (own:=[("at",10),("point",11)]) g1 (by decide) (Ri g1 (by decide) (by decide) (by rfl) R.oO (eE (xv 8))) (blkOk_by (N:=iD) (sc:=defScope bG) (by decide+kernel)) (fun _ _ _ _ _=>(fB (g1.blk _ _ _ _ _) (bj (gn (g1.blk _ _ _ _ _) 10) (bj (gn (g1.blk _ _ _ _ _) 11) eZ)))) (fun _ _ _ _ _=>gD) (fun _ _ _ _ _=>(xv 11)) (fun _ _ _ _ _=>(xv 10)))) (gn g1 9)) (PSs.ao (Yb g1 (d7 (eQ (VP R.mW R.mV R.mX) (eE (VP R.uB R.tD R.ue)))) (xv 9) (VP R.mW R.mV R.mX) (xv 9) (VP R.uB R.tD R.ue)) (PSs.ao (P0 g1 R.hC R.vz (xv 0) (aR (Qp (own:=[("name",6),("target",7)]) g1 (by decide) (eU g1 (aR (V5 g1 (by rfl) R.tW (xv 1)))) (blkOk_by (N:=iD) (sc:=defScope bG) (by decide+kernel)) (fun _ _ _ _ _=>(fB (g1.blk _ _ _ _ _) (bj (gn (g1.blk _ _ _ _ _) 6) (bj (gn (g1.blk _ _ _ _ _) 7) eZ)))) (fun _ _ _ _ _=>gD) (fun _ _ _ _ _=>(xv 6)) (fun _ _ _ _ _=>(ix (g1.blk _ _ _ _ _) (xv 9) (xv 7))))) (by rfl)) (PSs.ao (P0 g1 R.hC R.vh (xv 0) (aR (jh (own:=[("point",11)]) g1 (by decide) (eU g1 (xv 8)) (blkOk_by (N:=iD) (sc:=defScope bG) (by decide+kernel)) (fun _ _ _ _ _=>(gn (g1.blk _ _ _ _ _) 11)) (fun _ _ _ _ _=>gD) (fun _ _ _ _ _=>(d7 (eQ (ix (g1.blk _ _ _ _ _) (ix (g1.blk _ _ _ _ _) (xv 2) (aD (g1.blk _ _ _ _ _) .Sub (xv 11) aN)) aN) (eE (bL (g1.blk _ _ _ _ _) .tuple (by rfl) R.yJ (aR (jh (own:=[("one",12)]) (g1.blk _ _ _ _ _) (by decide) (eU (g1.blk _ _ _ _ _) (ix (g1.blk _ _ _ _ _) (ix (g1.blk _ _ _ _ _) (xv 2) (aD (g1.blk _ _ _ _ _) .Sub (xv 11) aN)) aN)) (blkOk_by (N:=iD) (sc:=Oz.relS ⟨.function,[(".0",.local),("point",.local),("tuple",.globalImplicit),("anew",.free),("items",.free)],false,false,[]⟩ (defScope bG)) (by decide+kernel)) (fun _ _ _ _ _=>(gn ((g1.blk _ _ _ _ _).blk _ _ _ _ _) 12)) (fun _ _ _ _ _=>gD) (fun _ _ _ _ _=>(ix ((g1.blk _ _ _ _ _).blk _ _ _ _ _) (xv 9) (xv 12)))))))))))) (by rfl)) PSs.aO))))))))))
theorem Qy (R:Fx w mg G) (A:All P w mg base G (Mn n) (4* n)):Pr P w mg base G (4* n+4) (Mn (n+1)) 2 (dot "Web" "__eq__") "__eq__" "Web.__eq__" xF ["self","other"]:=o1 R.he Tq (Ec n) fun _ _ _ _ _ _ _ _ g1 g3 hp tk=>
 (PSs.ao (bh (pG (Mw g1 R.hA R.WY R.CW (by rfl) R.aH (xv 1) (pe_glob (by rfl) R.KJ rfl)) (pG (Zd g1 .Eq (oK g1 R.hC R.vz (xv 0) (by rfl)) (oK g1 R.hC R.vz (xv 1) (by rfl))) (abd (Zd g1 .Eq (oK g1 R.hC R.vh (xv 0) (by rfl)) (oK g1 R.hC R.vh (xv 1) (by rfl))))))) PSs.aO)
theorem Jb (R:Fx w mg G) (A:All P w mg base G (Mn n) (4* n)):Pr P w mg base G (4* n+4) (Mn (n+1)) 1 (dot "Web" "__repr__") "__repr__" "Web.__repr__" qG ["self"]:=o1 R.he M5 (yP n) fun _ _ _ _ _ _ _ _ g1 g3 hp tk=>
 (PSs.ao (bh (bL g1 .str (by rfl) R.Qh (cv g1 A.R5 tk (eQ (oK g1 R.hC R.vz (xv 0) (by rfl)) (eE (oK g1 R.hC R.vh (xv 0) (by rfl))))))) PSs.aO)
theorem Ak (R:Fx w mg G) (A:All P w mg base G (Mn n) (4* n)):Pr P w mg base G (4* n+4) (Mn (n+1)) 1 (dot "Web" "name_rows") "name_rows" "Web.name_rows" lO ["self"]:=o1 R.he Cr (rW n) fun _ _ _ _ _ _ _ _ g1 g3 hp tk=>
 (PSs.ao (O8 (agm g1 (by rfl) R.Uk (oK g1 R.hC R.vz (xv 0) (by rfl)))) PSs.aO)
theorem Am (R:Fx w mg G) (A:All P w mg base G (Mn n) (4* n)):Pr P w mg base G (4* n+4) (Mn (n+1)) 1 (dot "Web" "item_rows") "item_rows" "Web.item_rows" lV ["self"]:=o1 R.he Ck (sW n) fun _ _ _ _ _ _ _ _ g1 g3 hp tk=>
 (PSs.ao (O8 (af4 g1 (by rfl) R.Uk (oK g1 R.hC R.vh (xv 0) (by rfl)) (by rfl))) PSs.aO)
theorem aek (R:Fx w mg G) (A:All P w mg base G (Mn n) (4* n)):Pr P w mg base G (4* n+4) (Mn (n+1)) 1 "mark" "mark" "mark" TJ ["target"]:=o1 R.he ahb (aaR n) fun _ _ _ _ _ _ _ _ g1 g3 hp tk=>
 (PSs.ao (bM (mj g1 .Eq (xv 0) (VP R.mW R.mV R.mX)) (PSs.ao (bh dF) PSs.aO) PSs.aO) (PSs.ao (bh (j9 (mj g1 .Eq (xv 0) (VP R.uB R.tD R.ue)) dF (bL g1 .str (by rfl) R.Qh (xv 0)))) PSs.aO))
theorem Rb (R:Fx w mg G) (A:All P w mg base G (Mn n) (4* n)):Pr P w mg base G (4* n+4) (Mn (n+1)) 2 "web_text" "web_text" "web_text" oE ["leads","spots"]:=o1 R.he xH (Hg n) fun _ _ _ _ _ _ _ _ g1 g3 hp tk=>
 (PSs.ao (YF (own:=[("name",3),("target",4)]) g1 (i:=2) (j:=0) (by rfl) (by rfl) (sw_true rfl rfl rfl (by decide+kernel)) (by decide) (by rfl) (by first | exact Or.inl rfl | exact Or.inr (Or.inl rfl) | exact Or.inr (Or.inr rfl)) (by decide) (by decide) (blkOk_by (N:=xH) (sc:=defScope oE) (by decide+kernel)) (fun _ _ _ _ _=>(fB (g1.blk _ _ _ _ _) (bj (gn (g1.blk _ _ _ _ _) 3) (bj (gn (g1.blk _ _ _ _ _) 4) eZ)))) (fun _ _ _ _ _=>gD) (fun _ _ _ _ _=>(abz (PF.fmt (xv 3) (PF.cst (PF.fmt (cv (g1.blk _ _ _ _ _) A.aac G7 (eE (xv 4))) PF.nil))))) (by rfl) (by rfl) (by intro _;rfl) false) (PSs.ao (d8 g1 hp (Ri g1 (by decide) (by decide) (by rfl) R.oO (eE (xv 1))) (fB g1 (bj (gn g1 5) (bj (fB g1 (bj (gn g1 6) (bj (gn g1 7) eZ))) eZ))) (PSs.ao (aG (pD g1 dF (aR (jh (own:=[("target",4)]) g1 (by decide) (eU g1 (xv 7)) (blkOk_by (N:=xH) (sc:=defScope oE) (by decide+kernel)) (fun _ _ _ _ _=>(gn (g1.blk _ _ _ _ _) 4)) (fun _ _ _ _ _=>gD) (fun _ _ _ _ _=>(cv (g1.blk _ _ _ _ _) A.aac G7 (eE (xv 4))))))) (gn g1 8)) (PSs.ao (fL (jG g1 .append (.inl rfl) (xv 2) (eE (abz (PF.fmt (xv 5) (PF.cst (PF.fmt (xv 6) (PF.cst (PF.fmt (xv 8) (PF.cst PF.nil)))))))))) PSs.aO))) (PSs.ao (bh (j9 (mj g1 .Gt (bL g1 .len (by rfl) R.iw (xv 2)) aN) (pD g1 dF (xv 2)) dF)) PSs.aO)))
theorem Og (R:Fx w mg G) (A:All P w mg base G (Mn n) (4* n)):Pr P w mg base G (4* n+4) (Mn (n+1)) 1 "read_mark" "read_mark" "read_mark" oH ["word"]:=o1 R.he BV (BX n) fun _ _ _ _ _ _ _ _ g1 g3 hp tk=>
 (PSs.ao (bM (mj g1 .Eq (xv 0) dF) (PSs.ao (bh (VP R.mW R.mV R.mX)) PSs.aO) PSs.aO) (PSs.ao (bM (mj g1 .Eq (xv 0) dF) (PSs.ao (bh (VP R.uB R.tD R.ue)) PSs.aO) PSs.aO) (PSs.ao (bM (w6 (kZ (akB g1 aN (bL g1 .len (by rfl) R.iw (xv 0)) aN)) (rB (kZ (tv (bL g1 .all (by rfl) R.O5 (aR (jh (own:=[("sign",1)]) g1 (by decide) (Bb g1 (xv 0)) (blkOk_by (N:=BV) (sc:=defScope oH) (by decide+kernel)) (fun _ _ _ _ _=>(gn (g1.blk _ _ _ _ _) 1)) (fun _ _ _ _ _=>gD) (fun _ _ _ _ _=>(Zd (g1.blk _ _ _ _ _) .In (xv 1) (VP R.J9 R.Ju R.JS)))))))))).pt (PSs.ao (vg g1 tk R.jW (gQ n)) PSs.aO) PSs.aO) (PSs.ao (bh (bL g1 .int (by rfl) R.aft (xv 0))) PSs.aO))))
theorem Mq (R:Fx w mg G) (A:All P w mg base G (Mn n) (4* n)):Pr P w mg base G (4* n+4) (Mn (n+1)) 1 "read_item" "read_item" "read_item" oR ["text"]:=o1 R.he Bq (Bu n) fun _ _ _ _ _ _ _ _ g1 g3 hp tk=>
 (PSs.ao (aG (FZ g1 (xv 0) dF) (fB g1 (bj (gn g1 1) (bj (gn g1 2) (bj (gn g1 3) eZ))))) (PSs.ao (bM (w6 (mj g1 .Eq (xv 2) dF) (rB (mj g1 .NotEq (j8 g1 (xv 3) (ir (Mz aN)) gR) dF))).pt (PSs.ao (vg g1 tk R.jW (gQ n)) PSs.aO) PSs.aO) (PSs.ao (aG (j8 g1 (xv 3) gR (ir (Mz aN))) (gn g1 4)) (PSs.ao (bh (d7 (eQ (xv 1) (eE (j9 (mj g1 .NotEq (xv 4) dF) (bL g1 .tuple (by rfl) R.yJ (aR (aaa (own:=[("one",5)]) g1 tk (by decide) (eU g1 (aR (uV (xv 4) dF))) (blkOk_by (N:=Bq) (sc:=defScope oR) (by decide+kernel)) (fun _ _ _ _ _=>(gn (g1.blk _ _ _ _ _) 5)) (fun _ _ _ _ _ _ tc=>(cvC (g1.Ja _ _ _ _ _ _) A.Bt tc (eE (xv 5))))))) (d7 gJ)))))) PSs.aO))))
theorem QQ (R:Fx w mg G) (A:All P w mg base G (Mn n) (4* n)):Pr P w mg base G (4* n+4) (Mn (n+1)) 1 "read_web" "read_web" "read_web" xj ["text"]:=o1 R.he U3 (Ge n) fun _ _ _ _ _ _ _ _ g1 g3 hp tk=>
 (PSs.ao (ad9 (i:=1) (j:=2) g1 (by rfl) (by rfl) (by decide) (by rfl) (by rfl) (eQ (iy (dY gJ)) (eE (iy (dY gJ)))) (by rfl)) (PSs.ao (d8 g1 hp (eU g1 (j9 (mj g1 .Eq (xv 0) dF) (aR (dY gJ)) (aR (uV (xv 0) dF)))) (gn g1 3) (PSs.ao (aG (FZ g1 (xv 3) dF) (fB g1 (bj (gn g1 4) (bj (gn g1 5) (bj (gn g1 6) eZ))))) (PSs.ao (bM (mj g1 .Eq (xv 5) dF) (PSs.ao (fL (jG g1 .append (.inl rfl) (xv 1) (eE (d7 (eQ (xv 4) (eE (cv g1 A.Bt tk (eE (xv 6))))))))) PSs.aO) (PSs.ao (aG (FZ g1 (xv 3) dF) (fB g1 (bj (gn g1 7) (bj (gn g1 8) (bj (gn g1 9) eZ))))) (PSs.ao (bM (mj g1 .NotEq (xv 8) dF) (PSs.ao (vg g1 tk R.jW (gQ n)) PSs.aO) PSs.aO) (PSs.ao (fL (jG g1 .append (.inl rfl) (xv 2) (eE (cv g1 A.QF tk (eE (xv 9)))))) PSs.aO)))) PSs.aO))) (PSs.ao (aa0 g3 ⟨by rfl,by decide,.inl R.xm⟩ ⟨by rfl,by decide,.inl R.Be⟩ (L2H.passesAt_of rfl) tk (fun _ _ _ g3 hp tk=>(have g1:=g3.le (show 4* n+1≤4* n+3 by omega);(PSs.ao (aG (aR (nwN g1 A.QV tk (eQ (xv 1) (eE (xv 2))))) (gn g1 10)) PSs.aO))) (fun _ _ tk hot=>(PSs.ao (Tc tk hot R.jW (gQ n)) PSs.aO)) (R.Fb n) (R.Ke n)) (PSs.ao (bM (mj g1 .NotEq (rp g1 A.afx R.Hf (xv 10)) (xv 0)) (PSs.ao (vg g1 tk R.jW (gQ n)) PSs.aO) PSs.aO) (PSs.ao (bh (xv 10)) PSs.aO)))))
theorem aaz (R:Fx w mg G) (A:All P w mg base G (Mn n) (4* n)):Pr P w mg base G (4* n+4) (Mn (n+1)) 2 "_law_cell" "_law_cell" "_law_cell" MF ["_law_script","_law_k"]:=o1 R.he aeC (Oa n) fun _ _ _ _ _ _ _ _ g1 g3 hp tk=>
 (PSs.ao (bM (mj g1 .Lt (xv 1) (bL g1 .len (by rfl) R.iw (xv 0))) (PSs.ao (bh (ix g1 (xv 0) (xv 1))) PSs.aO) PSs.aO) (PSs.ao (aG aN (gn g1 2)) (PSs.ao (d8 g1 hp (eU g1 (xv 0)) (gn g1 3) (PSs.ao (aG (aD g1 .Mod (aD g1 .Add (aD g1 .Mult (xv 2) aN) (xv 3)) aN) (gn g1 2)) PSs.aO)) (PSs.ao (bh (aD g1 .Mod (aD g1 .Mult (aD g1 .Mult (aD g1 .Add (xv 2) aN) (aD g1 .Add (xv 1) aN)) aN) aN)) PSs.aO))))
theorem Uw (R:Fx w mg G) (A:All P w mg base G (Mn n) (4* n)):Pr P w mg base G (4* n+4) (Mn (n+1)) 3 "_law_digits" "_law_digits" "_law_digits" Ag ["_law_script","_law_k","_law_sizes"]:=o1 R.he Xx (zW n) fun _ _ _ _ _ _ _ _ g1 g3 hp tk=>
 (PSs.ao (aG (cv g1 A.acK tk (eQ (xv 0) (eE (xv 1)))) (gn g1 3)) (PSs.ao (aG (iy (dY gJ)) (gn g1 4)) (PSs.ao (bM (mj g1 .GtE (xv 3) (aD g1 .Pow aN aN)) (PSs.ao (aG (aD g1 .Sub (xv 3) (aD g1 .Pow aN aN)) (gn g1 5)) (PSs.ao (d8 g1 hp (eU g1 (xv 2)) (gn g1 6) (PSs.ao (fL (jG g1 .append (.inl rfl) (xv 4) (eE (aD g1 .Mod (xv 5) (xv 6))))) (PSs.ao (aG (aD g1 .FloorDiv (xv 5) (xv 6)) (gn g1 5)) PSs.aO))) (PSs.ao (bh (xv 4)) PSs.aO))) PSs.aO) (PSs.ao (aG (aD g1 .Mod (xv 3) aN) (gn g1 7)) (PSs.ao (d8 g1 hp (jD (by rfl) R.km (eE (bL g1 .len (by rfl) R.iw (xv 2)))) (gn g1 8) (PSs.ao (aG (aD g1 .Mod (aD g1 .Add (aD g1 .Mult (xv 7) aN) (aD g1 .Mult aN (aD g1 .Add (xv 8) aN))) aN) (gn g1 7)) (PSs.ao (aG (aD g1 .Mod (aD g1 .Add (aD g1 .Add (aD g1 .Mult (xv 7) (xv 7)) (aD g1 .Mult aN (xv 7))) (xv 8)) aN) (gn g1 9)) (PSs.ao (fL (jG g1 .append (.inl rfl) (xv 4) (eE (aD g1 .Mod (aD g1 .FloorDiv (xv 9) aN) (ix g1 (xv 2) (xv 8)))))) PSs.aO)))) (PSs.ao (bh (xv 4)) PSs.aO))))))
theorem aaF (R:Fx w mg G) (A:All P w mg base G (Mn n) (4* n)):Pr P w mg base G (4* n+4) (Mn (n+1)) 2 "_law_same" "_law_same" "_law_same" MJ ["_law_one","_law_other"]:=o1 R.he aen (Xe n) fun _ _ _ _ _ _ _ _ g1 g3 hp tk=>
 (PSs.ao (bM (tv (adl g1 R.hA R.abu R.nd (by rfl) R.aH (xv 1) (pe_bltn (by rfl) R.abx rfl rfl))) (PSs.ao adf PSs.aO) PSs.aO) (PSs.ao (bh (pG (Zd g1 .Eq (xv 0) (xv 1)) (abd (Zd g1 .Eq (bL g1 .repr (by rfl) R.Hf (xv 0)) (bL g1 .repr (by rfl) R.Hf (xv 1)))))) PSs.aO))
theorem aey (R:Fx w mg G) (A:All P w mg base G (Mn n) (4* n)):FnX P w G.K mg base G (Mn (n+1)) (4* n+4) R.nM R.zf ["_law_e"] 1 "_law_kin":=by
 refine ajX (k:=4* n+3) (d:=T8) R.Nv adI (abl n) rfl rfl fun e cI AA outer s H E p g3 tk=> ?_
 have g1:=g3.le (show 4* n+1≤4* n+3 by omega)
 exact (PSs.ao (aG (aR (dY (eQ (cJ (u:=.ref R.m7) g1 (R.Fp n) (fun _ h=>h) (by rfl) R.aH (xv 0) (pe_glob (by rfl) R.xm rfl)) (eQ (cJ (u:=.ref R.pJ) g1 (R.JH n) (fun _ h=>h) (by rfl) R.aH (xv 0) (pe_glob (by rfl) R.Be rfl)) (eQ (cJ (u:=.ref R.Dq) g1 (R.Vh n) (fun _ h=>h) (by rfl) R.aH (xv 0) (pe_glob (by rfl) R.Wt rfl)) (eE (cJ (u:=.ref R.nq) g1 (R.Gf n) (fun _ h=>h) (by rfl) R.aH (xv 0) (pe_glob (by rfl) R.xr rfl)))))))) (gn g1 1)) (PSs.ao (aG (aR (Du (xv 1) (aR (dY (eQ (cJ (u:=.ref R.mQ) g1 (R.yw n) (fun _ h=>h) (by rfl) R.aH (xv 0) (pe_glob (by rfl) R.xU rfl)) (eQ (cJ (u:=.ref R.qD) g1 (R.HR n) (fun _ h=>h) (by rfl) R.aH (xv 0) (pe_glob (by rfl) R.El rfl)) (eE (cJ (u:=.ref R.lB) g1 (R.wj n) (fun _ h=>h) (by rfl) R.aH (xv 0) (pe_glob (by rfl) R.v9 rfl))))))))) (gn g1 1)) (PSs.ao (aG (aR (Du (xv 1) (aR (dY (eQ (cJ (u:=.ref R.qQ) g1 (R.Ef n) (fun _ h=>h) (by rfl) R.aH (xv 0) (pe_glob (by rfl) R.Fj rfl)) (eQ (cJ (u:=.ref R.uZ) g1 (R.KD n) (fun _ h=>h) (by rfl) R.aH (xv 0) (pe_glob (by rfl) R.Lh rfl)) (eQ (cJ (u:=.ref R.jR) g1 (R.uH n) (fun _ h=>h) (by rfl) R.aH (xv 0) (pe_glob (by rfl) R.ug rfl)) (eE (cJ (u:=.ref R.rM) g1 (R.En n) (fun _ h=>h) (by rfl) R.aH (xv 0) (pe_glob (by rfl) R.Fg rfl)))))))))) (gn g1 1)) (PSs.ao (aG (aR (Du (xv 1) (aR (dY (eQ (cJ (u:=.ref R.Di) g1 (R.Vu n) (fun _ h=>h) (by rfl) R.aH (xv 0) (pe_glob (by rfl) R.U7 rfl)) (eQ (cJ (u:=.ref R.vC) g1 (R.JX n) (fun _ h=>h) (by rfl) R.aH (xv 0) (pe_glob (by rfl) R.Jx rfl)) (eQ (cJ (u:=.ref R.qM) g1 (R.Hz n) (fun _ h=>h) (by rfl) R.aH (xv 0) (pe_glob (by rfl) R.FT rfl)) (eE (cJ (u:=.ref R.yQ) g1 (R.QT n) (fun _ h=>h) (by rfl) R.aH (xv 0) (pe_glob (by rfl) R.Rc rfl)))))))))) (gn g1 1)) (PSs.ao (aG (aR (Du (xv 1) (aR (dY (eQ (cJ (u:=.ref R.mK) g1 (R.za n) (fun _ h=>h) (by rfl) R.aH (xv 0) (pe_glob (by rfl) R.yO rfl)) (eQ (cJ (u:=.ref R.oJ) g1 (R.Bm n) (fun _ h=>h) (by rfl) R.aH (xv 0) (pe_glob (by rfl) R.Bo rfl)) (eQ (cJ (u:=.ref R.yV) g1 (R.Pk n) (fun _ h=>h) (by rfl) R.aH (xv 0) (pe_glob (by rfl) R.Qe rfl)) (eE (cJ (u:=.ref R.qX) g1 (R.Gg n) (fun _ h=>h) (by rfl) R.aH (xv 0) (pe_glob (by rfl) R.Ij rfl)))))))))) (gn g1 1)) (PSs.ao (aG dF (gn g1 2)) (PSs.ao (aG (aD g1 .Add (xv 2) dF) (gn g1 2)) (PSs.ao (bM (mj g1 .NotEq (Zq g1 (xv 1) uU) aN) (PSs.ao (bh dF) PSs.aO) PSs.aO) (PSs.ao (aG (aal g1 (xv 1) uU) (gn g1 3)) (PSs.ao (aG (aR (dY (eQ (cJ (u:=.ref R.lu) g1 (R.vX n) (fun _ h=>h) (by rfl) R.aH (xv 0) (pe_glob (by rfl) R.v4 rfl)) (eQ (cJ (u:=.ref R.rQ) g1 (R.Ff n) (fun _ h=>h) (by rfl) R.aH (xv 0) (pe_glob (by rfl) R.Eh rfl)) (eE (cJ (u:=.ty "ValueError") g1 (R.wg n) (fun _ h=>h) (by rfl) R.aH (xv 0) (pe_bltn (by rfl) R.zA rfl rfl))))))) (gn g1 4)) (PSs.ao (aG (aR (Du (xv 4) (aR (dY (eQ (cJ (u:=.ty "LookupError") g1 (R.tV n) (fun _ h=>h) (by rfl) R.aH (xv 0) (pe_bltn (by rfl) R.wC rfl rfl)) (eQ (cJ (u:=.ty "KeyError") g1 (R.BP n) (fun _ h=>h) (by rfl) R.aH (xv 0) (pe_bltn (by rfl) R.G8 rfl rfl)) (eE (cJ (u:=.ty "IndexError") g1 (R.vU n) (fun _ h=>h) (by rfl) R.aH (xv 0) (pe_bltn (by rfl) R.xY rfl rfl))))))))) (gn g1 4)) (PSs.ao (aG (aR (dY (eQ (Zd g1 .Lt (xv 3) aN) (eQ (adF g1 aN (xv 3) aN) (eQ (Zd g1 .Lt (xv 3) aN) (eQ (Zd g1 .Gt (xv 3) aN) (eQ (Zd g1 .Eq (xv 3) aN) (eE (Zd g1 .Eq (xv 3) aN))))))))) (gn g1 5)) (PSs.ao (bh (j9 (mj g1 .Eq (xv 4) (xv 5)) (ix g1 (aR (uV (xv 2) dF)) (xv 3)) dF)) PSs.aO)))))))))))))
theorem YL (R:Fx w mg G) (A:All P w mg base G (Mn n) (4* n)):Pr P w mg base G (4* n+4) (Mn (n+1)) 3 "_law_names" "_law_names" "_law_names" qd ["_law_script","_law_k","_law_many"]:=o1 R.he yE (Pa n) fun _ _ _ _ _ _ _ _ g1 g3 hp tk=>
 (PSs.ao (aG (d7 (eQ (iy (dY gJ)) (eE dF))) (fB g1 (bj (gn g1 3) (bj (gn g1 4) eZ)))) (PSs.ao (d8 g1 hp (jD (by rfl) R.km (eE (xv 2))) (gn g1 5) (PSs.ao (aG (cv g1 A.pZ tk (eQ (xv 0) (eQ (aD g1 .Add (xv 1) (aD g1 .Mod (xv 5) aN)) (eE (aR (dY (eQ aN (eQ aN (eQ aN (eE aN)))))))))) (fB g1 (bj (gn g1 6) (bj (gn g1 7) (bj (gn g1 8) (bj (gn g1 9) eZ)))))) (PSs.ao (aG (pD g1 dF (aR (jh (own:=[("_law_i",11)]) g1 (by decide) (jD (by rfl) R.km (eE (xv 8))) (blkOk_by (N:=yE) (sc:=defScope qd) (by decide+kernel)) (fun _ _ _ _ _=>(gn (g1.blk _ _ _ _ _) 11)) (fun _ _ _ _ _=>gD) (fun _ _ _ _ _=>(ix (g1.blk _ _ _ _ _) (xv 4) (aD (g1.blk _ _ _ _ _) .Mod (aD (g1.blk _ _ _ _ _) .Add (aD (g1.blk _ _ _ _ _) .Add (xv 6) (aD (g1.blk _ _ _ _ _) .Mult (xv 11) (xv 7))) (aD (g1.blk _ _ _ _ _) .Mult aN (xv 5))) aN)))))) (gn g1 10)) (PSs.ao (aG (ix g1 (xv 4) (aD g1 .Mod (aD g1 .Add (aD g1 .Add (xv 6) (aD g1 .Mult aN (xv 5))) aN) aN)) (gn g1 12)) (PSs.ao (aG (aD g1 .Add (aD g1 .Add (j8 g1 (xv 10) gR (ir (xv 9))) (xv 12)) (j8 g1 (xv 10) (ir (xv 9)) gR)) (gn g1 13)) (PSs.ao (bM (mj g1 .In (xv 13) (xv 3)) (PSs.ao (Bc (own:=[("_law_tail",15)]) g1 (i:=14) (by rfl) (by rfl) (sw_true rfl rfl rfl (by decide+kernel)) (by decide) (Bb g1 dF) (blkOk_by (N:=yE) (sc:=defScope qd) (by decide+kernel)) (fun _ _ _ _ _=>(gn (g1.blk _ _ _ _ _) 15)) (fun _ _ _ _ _=>gD) (fun _ _ _ _ _=>(aD (g1.blk _ _ _ _ _) .Add (aD (g1.blk _ _ _ _ _) .Add dF (ix (g1.blk _ _ _ _ _) (xv 4) (xv 5))) (xv 15))) (by intro _;rfl) true) (PSs.ao (aG (ix g1 (aR (jh (own:=[("_law_one_more",16)]) g1 (by decide) (eU g1 (xv 14)) (blkOk_by (N:=yE) (sc:=defScope qd) (by decide+kernel)) (fun _ _ _ _ _=>(gn (g1.blk _ _ _ _ _) 16)) (fun _ _ _ _ _=>(aiB (mj (g1.blk _ _ _ _ _) .NotIn (xv 16) (xv 3)))) (fun _ _ _ _ _=>(xv 16)))) aN) (gn g1 13)) PSs.aO)) PSs.aO) (PSs.ao (fL (jG g1 .append (.inl rfl) (xv 3) (eE (xv 13)))) PSs.aO))))))) (PSs.ao (bh (xv 3)) PSs.aO)))
theorem acB (R:Fx w mg G) (A:All P w mg base G (Mn n) (4* n)):Pr P w mg base G (4* n+4) (Mn (n+1)) 2 "_law_met" "_law_met" "_law_met" Uj ["_law_leads","_law_spots"]:=o1 R.he age (abZ n) fun _ _ _ _ _ _ _ _ g1 g3 hp tk=>
 (PSs.ao (aG (iy (dY gJ)) (gn g1 2)) (PSs.ao (d8 g1 hp (eU g1 (aR (Wl g1 (by rfl) R.tW (xv 0)))) (gn g1 3) (PSs.ao (bM (CZ (mj g1 .Gt (ix g1 (xv 0) (xv 3)) aN) (xR (mj g1 .NotIn (ix g1 (xv 0) (xv 3)) (xv 2)))).pt (PSs.ao (fL (jG g1 .append (.inl rfl) (xv 2) (eE (ix g1 (xv 0) (xv 3))))) PSs.aO) PSs.aO) PSs.aO)) (PSs.ao (d8 g1 hp (jD (by rfl) R.km (eE (bL g1 .len (by rfl) R.iw (xv 1)))) (gn g1 4) (PSs.ao (bM (mj g1 .Lt (xv 4) (bL g1 .len (by rfl) R.iw (xv 2))) (PSs.ao (d8 g1 hp (eU g1 (ix g1 (ix g1 (xv 1) (ix g1 (xv 2) (xv 4))) aN)) (gn g1 5) (PSs.ao (bM (CZ (mj g1 .Gt (xv 5) aN) (xR (mj g1 .NotIn (xv 5) (xv 2)))).pt (PSs.ao (fL (jG g1 .append (.inl rfl) (xv 2) (eE (xv 5)))) PSs.aO) PSs.aO) PSs.aO)) PSs.aO) PSs.aO) PSs.aO)) (PSs.ao (bh (xv 2)) PSs.aO))))
theorem Yh (R:Fx w mg G) (A:All P w mg base G (Mn n) (4* n)):Pr P w mg base G (4* n+4) (Mn (n+1)) 2 "_law_canon" "_law_canon" "_law_canon" pU ["_law_leads","_law_spots"]:=o1 R.he yI (Q9 n) fun _ _ _ _ _ _ _ _ g1 g3 hp tk=>
 (PSs.ao (aG (cv g1 A.agY tk (eQ (xv 0) (eE (xv 1)))) (gn g1 2)) (PSs.ao (aG (iy (Vz g1 (pps_cons pe_int aN pps_nil) rfl rfl rfl (by decide) (by decide))) (gn g1 3)) (PSs.ao (jc g1 (aD g1 .Sub aN aN) (xv 3) (aD g1 .Sub aN aN)) (PSs.ao (d8 g1 hp (jD (by rfl) R.km (eE (bL g1 .len (by rfl) R.iw (xv 2)))) (gn g1 4) (PSs.ao (jc g1 (aD g1 .Add (xv 4) aN) (xv 3) (ix g1 (xv 2) (xv 4))) PSs.aO)) (PSs.ao (Bc (own:=[("_law_name",6)]) g1 (i:=5) (by rfl) (by rfl) (sw_true rfl rfl rfl (by decide+kernel)) (by decide) (eU g1 (aR (Wl g1 (by rfl) R.tW (xv 0)))) (blkOk_by (N:=yI) (sc:=defScope pU) (by decide+kernel)) (fun _ _ _ _ _=>(gn (g1.blk _ _ _ _ _) 6)) (fun _ _ _ _ _=>gD) (fun _ _ _ _ _=>(d7 (eQ (xv 6) (eE (ix (g1.blk _ _ _ _ _) (xv 3) (ix (g1.blk _ _ _ _ _) (xv 0) (xv 6))))))) (by intro _;rfl) true) (PSs.ao (bh (d7 (eQ (xv 5) (eE (aR (jh (own:=[("_law_one",8)]) g1 (by decide) (eU g1 (xv 2)) (blkOk_by (N:=yI) (sc:=defScope pU) (by decide+kernel)) (fun _ _ _ _ _=>(gn (g1.blk _ _ _ _ _) 8)) (fun _ _ _ _ _=>gD) (fun _ _ _ _ _=>(d7 (eQ (ix (g1.blk _ _ _ _ _) (ix (g1.blk _ _ _ _ _) (xv 1) (xv 8)) aN) (eE (bL (g1.blk _ _ _ _ _) .tuple (by rfl) R.yJ (aR (jh (own:=[("_law_target",7)]) (g1.blk _ _ _ _ _) (by decide) (eU (g1.blk _ _ _ _ _) (ix (g1.blk _ _ _ _ _) (ix (g1.blk _ _ _ _ _) (xv 1) (xv 8)) aN)) (blkOk_by (N:=yI) (sc:=Oz.relS ⟨.function,[(".0",.local),("_law_one",.local),("tuple",.globalImplicit),("_law_anew",.free),("_law_spots",.free)],false,false,[]⟩ (defScope pU)) (by decide+kernel)) (fun _ _ _ _ _=>(gn ((g1.blk _ _ _ _ _).blk _ _ _ _ _) 7)) (fun _ _ _ _ _=>gD) (fun _ _ _ _ _=>(ix ((g1.blk _ _ _ _ _).blk _ _ _ _ _) (xv 3) (xv 7)))))))))))))))) PSs.aO))))))
theorem aby (R:Fx w mg G) (A:All P w mg base G (Mn n) (4* n)):Pr P w mg base G (4* n+4) (Mn (n+1)) 1 "_law_told" "_law_told" "_law_told" Ot ["_law_web"]:=o1 R.he acH (Xi n) fun _ _ _ _ _ _ _ _ g1 g3 hp tk=>
 (PSs.ao (bM (kZ (tv (Mw g1 R.hA R.WY R.CW (by rfl) R.aH (xv 0) (pe_glob (by rfl) R.KJ rfl)))) (PSs.ao (bh adN) PSs.aO) PSs.aO) (PSs.ao (bh (d7 (eQ (mv0 g1 A.sV tk (xv 0)) (eE (mv0 g1 A.sE tk (xv 0)))))) PSs.aO))
theorem ab5 (R:Fx w mg G) (A:All P w mg base G (Mn n) (4* n)):Pr P w mg base G (4* n+4) (Mn (n+1)) 1 "_law_mark" "_law_mark" "_law_mark" Oi ["_law_target"]:=o1 R.he aeI (VH n) fun _ _ _ _ _ _ _ _ g1 g3 hp tk=>
 (PSs.ao (bh (j9 (mj g1 .Eq (xv 0) aN) dF (j9 (mj g1 .Lt (xv 0) aN) dF (bL g1 .str (by rfl) R.Qh (xv 0))))) PSs.aO)
theorem aap (R:Fx w mg G) (A:All P w mg base G (Mn n) (4* n)):Pr P w mg base G (4* n+4) (Mn (n+1)) 1 "_law_text" "_law_text" "_law_text" zp ["_law_raw_here"]:=o1 R.he M8 (Vf n) fun _ _ _ _ _ _ _ _ g1 g3 hp tk=>
 (PSs.ao (Bc (own:=[("_law_name",2),("_law_target",3)]) g1 (i:=1) (by rfl) (by rfl) (sw_true rfl rfl rfl (by decide+kernel)) (by decide) (eU g1 (ix g1 (xv 0) aN)) (blkOk_by (N:=M8) (sc:=defScope zp) (by decide+kernel)) (fun _ _ _ _ _=>(fB (g1.blk _ _ _ _ _) (bj (gn (g1.blk _ _ _ _ _) 2) (bj (gn (g1.blk _ _ _ _ _) 3) eZ)))) (fun _ _ _ _ _=>gD) (fun _ _ _ _ _=>(aD (g1.blk _ _ _ _ _) .Add (aD (g1.blk _ _ _ _ _) .Add (xv 2) dF) (cv (g1.blk _ _ _ _ _) A.WL G7 (eE (xv 3))))) (by intro _;rfl) false) (PSs.ao (d8 g1 hp (jD (by rfl) R.km (eE (bL g1 .len (by rfl) R.iw (ix g1 (xv 0) aN)))) (gn g1 4) (PSs.ao (aG (ix g1 (ix g1 (xv 0) aN) (xv 4)) (fB g1 (bj (gn g1 5) (bj (gn g1 6) eZ)))) (PSs.ao (fL (jG g1 .append (.inl rfl) (xv 1) (eE (aD g1 .Add (aD g1 .Add (aD g1 .Add (aD g1 .Add (aD g1 .Add (bL g1 .str (by rfl) R.Qh (aD g1 .Add (xv 4) aN)) dF) (xv 5)) dF) (pD g1 dF (aR (jh (own:=[("_law_one",7)]) g1 (by decide) (eU g1 (xv 6)) (blkOk_by (N:=M8) (sc:=defScope zp) (by decide+kernel)) (fun _ _ _ _ _=>(gn (g1.blk _ _ _ _ _) 7)) (fun _ _ _ _ _=>gD) (fun _ _ _ _ _=>(cv (g1.blk _ _ _ _ _) A.WL G7 (eE (xv 7)))))))) dF)))) PSs.aO))) (PSs.ao (bh (j9 (mj g1 .NotEq (xv 1) (aR (dY gJ))) (pD g1 dF (xv 1)) dF)) PSs.aO)))
theorem adT (R:Fx w mg G) (A:All P w mg base G (Mn n) (4* n)):Pr P w mg base G (4* n+4) (Mn (n+1)) 4 "_law_raw" "_law_raw" "_law_raw" Tu ["_law_script","_law_k","_law_words","_law_most"]:=o1 R.he agq (abf n) fun _ _ _ _ _ _ _ _ g1 g3 hp tk=>
 (PSs.ao (aG (cv g1 A.pZ tk (eQ (xv 0) (eQ (xv 1) (eE (aR (dY (eQ aN (eQ (aD g1 .Add (xv 3) aN) (eQ aN (eE aN)))))))))) (fB g1 (bj (gn g1 4) (bj (gn g1 5) (bj (gn g1 6) (bj (gn g1 7) eZ)))))) (PSs.ao (aG (cv g1 A.ab4 tk (eQ (xv 0) (eQ (aD g1 .Add (xv 1) aN) (eE (aD g1 .Add aN (xv 4)))))) (gn g1 8)) (PSs.ao (aG (iy Mp) (gn g1 9)) (PSs.ao (d8 g1 hp (jD (by rfl) R.km (eE (xv 5))) (gn g1 10) (PSs.ao (aG (cv g1 A.pZ tk (eQ (xv 0) (eQ (aD g1 .Add (aD g1 .Add (xv 1) aN) (xv 10)) (eE (aR (dY (eQ (aD g1 .Add (bL g1 .len (by rfl) R.iw (xv 2)) aN) (eQ aN (eQ aN (eE aN)))))))))) (fB g1 (bj (gn g1 11) (bj (gn g1 12) (bj (gn g1 13) (bj (gn g1 14) eZ)))))) (PSs.ao (aG (j9 (mj g1 .Lt (xv 11) (bL g1 .len (by rfl) R.iw (xv 2))) (ix g1 (xv 2) (xv 11)) (d7 (eQ dF (eE aN)))) (fB g1 (bj (gn g1 15) (bj (gn g1 16) eZ)))) (PSs.ao (aG (iy (dY (eQ (aD g1 .Mod (xv 12) (aD g1 .Add (xv 5) aN)) (eE (aD g1 .Mod (xv 13) (aD g1 .Add (xv 5) aN)))))) (gn g1 17)) (PSs.ao (bM (mj g1 .Eq (xv 14) aN) (PSs.ao (jc g1 (aD g1 .Sub aN aN) (xv 17) (aD g1 .Mod (xv 12) aN)) PSs.aO) PSs.aO) (PSs.ao (bM (CZ (mj g1 .Gt (xv 14) aN) (xR (mj g1 .Gt (xv 6) aN))).pt (PSs.ao (jc g1 (agS g1 (by rfl) R.aeK (xv 5) (aD g1 .Add (xv 10) aN)) (xv 17) (aD g1 .Mod (xv 13) aN)) PSs.aO) PSs.aO) (PSs.ao (jc g1 (d7 (eQ (xv 15) (eE (bL g1 .tuple (by rfl) R.yJ (aR (aho g1 (xv 17) gR (ir (xv 16)))))))) (xv 9) (aD g1 .Add (xv 10) aN)) PSs.aO))))))) (PSs.ao (aG (iy Mp) (gn g1 18)) (PSs.ao (d8 g1 hp (jD (by rfl) R.km (eE (bL g1 .len (by rfl) R.iw (xv 8)))) (gn g1 10) (PSs.ao (aG (cv g1 A.pZ tk (eQ (xv 0) (eQ (aD g1 .Add (aD g1 .Add (xv 1) aN) (xv 10)) (eE (aR (dY (eQ aN (eE aN)))))))) (fB g1 (bj (gn g1 19) (bj (gn g1 20) eZ)))) (PSs.ao (jc g1 (j9 (mj g1 .Eq (xv 20) aN) (aD g1 .Sub aN aN) (aD g1 .Mod (aD g1 .Add (xv 19) (aD g1 .Mult (xv 7) (xv 10))) (aD g1 .Add (xv 5) aN))) (xv 18) (ix g1 (xv 8) (xv 10))) PSs.aO))) (PSs.ao (bM (CZ (mj g1 .Gt (xv 5) aN) (xR (mj g1 .Lt (xv 6) aN))).pt (PSs.ao (jc g1 aN (xv 18) (ix g1 (xv 8) aN)) PSs.aO) PSs.aO) (PSs.ao (bh (cv g1 A.abN tk (eQ (xv 18) (eE (xv 9))))) PSs.aO))))))))
theorem Sw (R:Fx w mg G) (A:All P w mg base G (Mn n) (4* n)):Pr P w mg base G (4* n+4) (Mn (n+1)) 3 "_law_spoilt" "_law_spoilt" "_law_spoilt" Bl ["_law_script","_law_k","_law_text_here"]:=o1 R.he X8 (JR n) fun _ _ _ _ _ _ _ _ g1 g3 hp tk=>
 (PSs.ao (aG (cv g1 A.pZ tk (eQ (xv 0) (eQ (xv 1) (eE (aR (dY (eQ aN (eQ aN (eE aN))))))))) (fB g1 (bj (gn g1 3) (bj (gn g1 4) (bj (gn g1 5) eZ))))) (PSs.ao (aG (aD g1 .Mod (xv 4) (aD g1 .Add (bL g1 .len (by rfl) R.iw (xv 2)) aN)) (gn g1 6)) (ac7 g1 (i:=7) (xg (L2.PST.of (bM (mj g1 .Eq (xv 3) aN) (PSs.ao (bh (aD g1 .Add (aD g1 .Add (j8 g1 (xv 2) gR (ir (xv 6))) (ix g1 (xv 7) (aD g1 .Mod (xv 5) aN))) (j8 g1 (xv 2) (ir (xv 6)) gR))) PSs.aO) PSs.aO)) (xg (L2.PST.of (bM (mj g1 .Eq (xv 3) aN) (PSs.ao (bh (aD g1 .Add (aD g1 .Add (j8 g1 (xv 2) gR (ir (xv 6))) (ix g1 (xv 7) (aD g1 .Mod (xv 5) aN))) (j8 g1 (xv 2) (ir (aD g1 .Add (xv 6) aN)) gR))) PSs.aO) PSs.aO)) (xg (L2.PST.of (bM (mj g1 .Eq (xv 3) aN) (PSs.ao (bh (aD g1 .Add (j8 g1 (xv 2) gR (ir (xv 6))) (j8 g1 (xv 2) (ir (aD g1 .Add (xv 6) aN)) gR))) PSs.aO) PSs.aO)) (xg (aeg (mj g1 .Eq (xv 3) aN) (xg (O2 (RB (xv 2) (aD g1 .Mod (xv 5) aN) (by intro _ _;rfl))) Uv) Uv) (xg (L2.PST.of (bM (mj g1 .Eq (xv 3) aN) (PSs.ao (aG (aR (uV (xv 2) dF)) (gn g1 8)) (PSs.ao (bh (pD g1 dF (aR (ahg g1 (xv 8))))) PSs.aO)) PSs.aO)) (xg (O2 (aaE g1 (abP (aaJ (j7 (Oz.PET.of (xv 2)) (j7 (Oz.PET.of (aD g1 .Add (xv 2) dF)) (j7 (Oz.PET.of (aD g1 .Add dF (xv 2))) (j7 (Oz.PET.of dF) (j7 (Oz.PET.of dF) (j7 (Oz.PET.of (aD g1 .Add (xv 2) dF)) (j7 (U5 (xv 2)) ZJ))))))))) (aD g1 .Mod (xv 5) aN) (by intro _ _;rfl))) Uv)))))))))
theorem Yj (R:Fx w mg G) (A:All P w mg base G (Mn n) (4* n)):Pr P w mg base G (4* n+4) (Mn (n+1)) 1 "_law_reads" "_law_reads" "_law_reads" Ek ["_law_text_here"]:=o1 R.he Z5 (GF n) fun _ _ _ _ _ _ _ _ g1 g3 hp tk=>
 (PSs.ao (aG (d7 (eQ dF (eE adN))) (fB g1 (bj (gn g1 1) (bj (gn g1 2) eZ)))) (PSs.ao (adu (i:=3) g3 (by rfl) (by rfl) ⟨by rfl,by decide,.inl R.xr⟩ tk (fun _ _ _ g3 hp tk=>(have g1:=g3.le (show 4* n+1≤4* n+3 by omega);(PSs.ao (aG (cv g1 A.UL tk (eE (xv 0))) (gn g1 2)) PSs.aO))) (fun _ _ g3=>(have g1:=g3.le (show 4* n+1≤4* n+3 by omega);(PSs.ao (aG (cvX g1 A.aa6 G7 (eE (xv 3))) (gn g1 1)) PSs.aO))) (R.GD n)) (PSs.ao (bh (d7 (eQ (xv 1) (eE (xv 2))))) PSs.aO)))
theorem agX (R:Fx w mg G) (A:All P w mg base G (Mn n) (4* n)) (U6:∀ ns:List Int,ns.length≤63→∃ T,exec (Mn n) Xd (some (.lst (ns.map .int))::List.replicate 6 none) []=.ret (.val (.bl true)) T):qu P w G.K mg base (4* n+4) R.vQ R.Oj ["_law_script"] (Em G.K 63):=by
 refine adi R.he (k:=4* n+3) R.aat ZP rfl (fun cI AA outer s H E _ g3 hp tk=> ?_) U6
 have g1:=g3.le (show 4* n+1≤4* n+3 by omega)
 exact pss_cons (ps_set (i:=0) ZP.nd rfl (by first | exact Or.inl rfl | exact Or.inr rfl) (pe_slice sl_list (pv 0) po_none (po_some pe_int)))
  (PSs.ao (d8 g1 hp (jD (by rfl) R.km (eE aN)) (gn g1 1) (PSs.ao (aG (cv g1 A.agz tk (eQ (xv 0) (eQ (aD g1 .Mult aN (xv 1)) (eQ (aR (dY (eQ (d7 (eQ dF (eE aN))) (eQ (d7 (eQ dF (eE aN))) (eE (d7 (eQ dF (eE aN)))))))) (eE aN))))) (gn g1 2)) (PSs.ao (aG (cv g1 A.Wb tk (eE (xv 2))) (gn g1 3)) (PSs.ao (aG (cv g1 A.GZ tk (eE (xv 3))) (fB g1 (bj (gn g1 4) (bj (gn g1 5) eZ)))) (PSs.ao (bM (w6 (mj g1 .NotEq (xv 4) dF) (rB (kZ (tv (cv g1 A.MP tk (eQ (cv g1 A.acS tk (eE (xv 5))) (eE (xv 2)))))))).pt (PSs.ao (bh uU) PSs.aO) PSs.aO) (PSs.ao (aG (cv g1 A.Yr tk (eQ (xv 0) (eQ (aD g1 .Add (aD g1 .Mult aN (xv 1)) aN) (eE (xv 3))))) (gn g1 6)) (PSs.ao (aG (cv g1 A.GZ tk (eE (xv 6))) (fB g1 (bj (gn g1 4) (bj (gn g1 5) eZ)))) (PSs.ao (bM (mj g1 .Eq (xv 4) dF) (PSs.ao (bM (w6 (kZ (tv (Mw g1 R.hA R.WY R.CW (by rfl) R.aH (xv 5) (pe_glob (by rfl) R.KJ rfl)))) (rB (kZ (tv (cv g1 A.MP tk (eQ (rp g1 A.afx R.Hf (xv 5)) (eE (xv 6)))))))).pt (PSs.ao (bh uU) PSs.aO) PSs.aO) (PSs.ao (bM (kZ (tv (cv g1 A.MP tk (eQ (cv g1 A.Wb tk (eE (d7 (eQ (mv0 g1 A.sV tk (xv 5)) (eE (mv0 g1 A.sE tk (xv 5))))))) (eE (xv 6)))))) (PSs.ao (bh uU) PSs.aO) PSs.aO) PSs.aO)) (PSs.ao (bM (w6 (mj g1 .NotEq (xv 4) dF) (rB (mj g1 .Eq (xv 6) (xv 3)))).pt (PSs.ao (bh uU) PSs.aO) PSs.aO) PSs.aO)) PSs.aO)))))))) (PSs.ao (bh (eqv g3 A.ajV (ix g1 (cv g1 A.GZ tk (eE dF)) aN) (aR (nw0 g1 A.Ro.toG tk)))) PSs.aO))
theorem afz (R:Fx w mg G):∀ n:Nat,All P w mg base G (Mn n) (4* n)
 | 0=>⟨ab1 R (Wx rfl fun _ _=>rfl) (ahJ rfl fun _ _=>rfl),cCN R.qj z0N,cCN R.jQ z0N,cCN R.qb z0N,cCN R.nH z0N,cE R.hA R.Ho R.U0 R.ou z0,cR R.jO z0,cM R.hC R.fJ z0,cM R.hC R.fP z0,cC R.Hv z0,cC R.nO z0,cC R.lL z0,cC R.lJ z0,cC R.mZ z0,cC R.yU z0,cC R.qm z0,cC R.yr z0,cC R.uK z0,cC R.HH z0,cC R.t8 z0,cC R.yo z0,cC R.yR z0,cC R.yL z0,cC R.DY z0,cC R.pF z0,cC R.uC z0⟩
 | n+1=>have A:=afz R n;⟨ab1 R (IK R A) (aey R A),cCN R.qj (Ui R A),cCN R.jQ (Ip R A),cCN R.qb (Rz R A),cCN R.nH (Q8 R A),cE R.hA R.Ho R.U0 R.ou (Qy R A),cR R.jO (Jb R A),cM R.hC R.fJ (Ak R A),cM R.hC R.fP (Am R A),cC R.Hv (aek R A),cC R.nO (Rb R A),cC R.lL (Og R A),cC R.lJ (Mq R A),cC R.mZ (QQ R A),cC R.yU (aaz R A),cC R.qm (Uw R A),cC R.yr (aaF R A),cC R.uK (YL R A),cC R.HH (acB R A),cC R.t8 (Yh R A),cC R.yo (aby R A),cC R.yR (ab5 R A),cC R.yL (aap R A),cC R.DY (adT R A),cC R.pF (Sw R A),cC R.uC (Yj R A)⟩
end
end K04
namespace K04
open PySem L2 Oz PyProof.Rows
def clA (a0:Addr) (d:Str):Addr:=a0
theorem De {P:Addr→Prop} {a0:Addr} (h0:P a0) (d:Str):P (clA a0 d):=by
 unfold clA
 exact h0
theorem agp {K:PySem.W.Frag} {C:Addr} {T:String} {b:Bool} (h:PySem.W.kitMeta T=true) (s:PySem.W.subIn K (.ref C) (.type T)=some b):PySem.W.kitOne K (.ref C) (.type T)=some b:=by
 unfold PySem.W.kitOne PySem.W.kitCls
 rw [if_neg (by intro z;cases beq_iff_eq.mp z)]
 dsimp only
 rw [if_pos h];exact s
theorem xq {K:PySem.W.Frag} {C:Addr} {T:String} {b:Bool} (i:PySem.W.isClsIn K C=true) (t:PySem.W.typeIn K (.ref C)=some (.type "type")) (s:PySem.W.subIn K (.type T) (.ref C)=some b):PySem.W.kitOne K (.type T) (.ref C)=some b:=by
 unfold PySem.W.kitOne PySem.W.kitCls
 rw [if_neg (by intro z;cases beq_iff_eq.mp z)]
 dsimp only
 rw [if_pos (by rw [t];unfold PySem.W.isClsIn at i;rw [i];rfl)];exact s
theorem afL {K:PySem.W.Frag} {C:Addr}:PySem.W.kitOne K (.ref C) (.ref C)=some true:=by
 unfold PySem.W.kitOne
 rw [if_pos (beq_self_eq_true _)]
abbrev xcv (fX cW bY gj dW iW fW bW di o9 dD fZ iV eY dX lC gh fY dC pq kJ:Addr):Str→Value:=valT [("BadItem",.ref fX),("BadLoftName",.ref cW),("BadName",.ref bY),("BadPage",.ref gj),("BadPoints",.ref dW),("BadRow",.ref iW),("BadRule",.ref fW),("BadText",.ref bW),("BadWeb",.ref di),("Full",.ref o9),("Groundless",.ref dD),("IndexError",.type "IndexError"),("KeyError",.type "KeyError"),("LookupError",.type "LookupError"),("Missing",.ref fZ),("NoName",.ref iV),("NoNumber",.ref eY),("NoProgram",.ref dX),("NoRow",.ref lC),("NoShape",.ref gh),("Nothing",.ref fY),("OsierError",.ref dC),("Shut",.ref pq),("Taken",.ref kJ),("ValueError",.type "ValueError")]
abbrev xlf (bY di bW:Addr):Str→Addr:=akU [("BadName",bY),("BadWeb",di),("BadText",bW)]
theorem agf {l:PySem.W.OpenLaw} {w:World} {K:PySem.W.Frag} {h:Heap} {mg:Str→Option Value} {fa:Addr} {dR fX cW bY gj dW iW fW bW di o9 dD fZ iV eY dX lC gh fY dC pq kJ bO rE kY kW nM vQ:Addr} {v8 Jd vZ wk o7 wB WQ ac8 Vj Xl Nk Ve abg afW abw aaj TX Z0:Value} {Iu ww DW Ei Gz adD Wz afP Zz:Option Addr} {Io Ez Hj Fd aei agD:Array (Option Value)} {rZ ji jm:Array Value} {IW vP v7:Nat} {abV:Tok} {zu:Tok} {wy:Tok} {Ky:Tok} {Jr:Tok} {J8:Tok} (X:K.In h) (GG:h.Ns mainGlobals mg) (hfa:mg "law"=some (.ref fa))
  (U6:∀ ns:List Int,ns.length≤63→∃ T,exec (Mn 10) Xd (some (.lst (ns.map .int))::List.replicate 6 none) []=.ret (.val (.bl true)) T)
  (aj6:PySem.W.nsIn K mainGlobals "len"=some none)
  (aiU:PySem.W.nsIn K mainGlobals "all"=some none)
  (ac9:PySem.W.nsIn K mainGlobals "tuple"=some none)
  (agi:PySem.W.nsIn K mainGlobals "repr"=some none)
  (aiF:PySem.W.nsIn K mainGlobals "str"=some none)
  (ajb:PySem.W.nsIn K mainGlobals "int"=some none)
  (Nf:PySem.W.nsIn K mainGlobals "isinstance"=some none)
  (ahC:PySem.W.nsIn K mainGlobals "dict"=some none)
  (agV:PySem.W.nsIn K mainGlobals "list"=some none)
  (abM:PySem.W.nsIn K mainGlobals "sorted"=some none)
  (adU:PySem.W.nsIn K mainGlobals "range"=some none)
  (PP:PySem.W.nsIn K mainGlobals "enumerate"=some none)
  (aii:PySem.W.nsIn K mainGlobals "min"=some none)
  (Mh:PySem.W.nsIn K mainGlobals "ValueError"=some none)
  (Iv:PySem.W.nsIn K mainGlobals "LookupError"=some none)
  (Ry:PySem.W.nsIn K mainGlobals "KeyError"=some none)
  (Nh:PySem.W.nsIn K mainGlobals "IndexError"=some none)
  (YM:PySem.W.nsIn K mainGlobals "FIGURES"=some (some (.str "0123456789" Jr)))
  (af5:PySem.W.nsIn K mainGlobals "GONE"=some (some (.int (-1) abV)))
  (Xv:PySem.W.nsIn K mainGlobals "LETTERS"=some (some (.str "abcdefghijklmnopqrstuvwxyz" J8)))
  (LK:PySem.W.nsIn K mainGlobals "MOST_NAMES"=some (some (.int (6) zu)))
  (Im:PySem.W.nsIn K mainGlobals "MOST_POINTS"=some (some (.int (200) wy)))
  (YZ:PySem.W.nsIn K mainGlobals "NOTHING"=some (some (.int (0) Ky)))
  (afO:PySem.W.nsIn K mainGlobals "Web"=some (some (.ref dR)))
  (agt:PySem.W.plainGet K dR Str.empty=true)
  (agw:PySem.W.hasDictIn K dR=true)
  (afS:PySem.W.plainOver K dR=true)
  (af8:PySem.W.findIn K (.ref dR) "__setattr__"=some (some (.builtin "object.__setattr__")))
  (ahq:PySem.W.findIn K (.ref dR) "__class__"=some (some (.builtin "object.__class__")))
  (agj:PySem.W.mroIn K dR (.type "object")=some true)
  (Hu:PySem.W.makesIn K dR=true)
  (Gh:PySem.W.keepIn K (.ref dR)=true)
  (wJ:PySem.W.isClsIn K dR=true)
  (wQ:PySem.W.typeIn K (.ref dR)=some (.type "type"))
  (afJ:PySem.W.subIn K (.ref dR) (.type "dict")=some false)
  (Ho:PySem.W.findIn K (.ref dR) "__ne__"=some (some (.builtin "object.__ne__")))
  (ad7:PySem.W.notFirst K dR (.type "list")=true)
  (ad4:PySem.W.notFirst K dR (.type "str")=true)
  (aeA:PySem.W.notFirst K dR (.type "tuple")=true)
  (Ea:PySem.W.subIn K (.type "NoneType") (.ref dR)=some false)
  (RM:PySem.W.subIn K (.type "bool") (.ref dR)=some false)
  (Yu:PySem.W.subIn K (.type "int") (.ref dR)=some false)
  (Yl:PySem.W.subIn K (.type "str") (.ref dR)=some false)
  (QS:PySem.W.subIn K (.type "tuple") (.ref dR)=some false)
  (Ss:PySem.W.subIn K (.type "list") (.ref dR)=some false)
  (Uh:PySem.W.subIn K (.type "dict") (.ref dR)=some false)
  (QK:PySem.W.findIn K (.ref dR) "leads"=some none)
  (QD:PySem.W.findIn K (.ref dR) "spots"=some none)
  (hn:PySem.W.specialIn K (.builtin "object.__class__") "__get__"=some (some (.builtin "getset_descriptor.__get__")))
  (htk:PySem.W.takesIn K (.builtin "object.__class__")=some true)
  (Uy:PySem.W.nsIn K mainGlobals "BadItem"=some (some (.ref fX)))
  (G4:PySem.W.nsIn K mainGlobals "BadLoftName"=some (some (.ref cW)))
  (Hh:PySem.W.nsIn K mainGlobals "BadName"=some (some (.ref bY)))
  (Tp:PySem.W.nsIn K mainGlobals "BadPage"=some (some (.ref gj)))
  (M6:PySem.W.nsIn K mainGlobals "BadPoints"=some (some (.ref dW)))
  (Yp:PySem.W.nsIn K mainGlobals "BadRow"=some (some (.ref iW)))
  (S9:PySem.W.nsIn K mainGlobals "BadRule"=some (some (.ref fW)))
  (G5:PySem.W.nsIn K mainGlobals "BadText"=some (some (.ref bW)))
  (JK:PySem.W.nsIn K mainGlobals "BadWeb"=some (some (.ref di)))
  (ac0:PySem.W.nsIn K mainGlobals "Full"=some (some (.ref o9)))
  (Jc:PySem.W.nsIn K mainGlobals "Groundless"=some (some (.ref dD)))
  (U4:PySem.W.nsIn K mainGlobals "Missing"=some (some (.ref fZ)))
  (Xn:PySem.W.nsIn K mainGlobals "NoName"=some (some (.ref iV)))
  (Q5:PySem.W.nsIn K mainGlobals "NoNumber"=some (some (.ref eY)))
  (Oh:PySem.W.nsIn K mainGlobals "NoProgram"=some (some (.ref dX)))
  (Zk:PySem.W.nsIn K mainGlobals "NoRow"=some (some (.ref lC)))
  (RP:PySem.W.nsIn K mainGlobals "NoShape"=some (some (.ref gh)))
  (Tf:PySem.W.nsIn K mainGlobals "Nothing"=some (some (.ref fY)))
  (IV:PySem.W.nsIn K mainGlobals "OsierError"=some (some (.ref dC)))
  (aez:PySem.W.nsIn K mainGlobals "Shut"=some (some (.ref pq)))
  (abH:PySem.W.nsIn K mainGlobals "Taken"=some (some (.ref kJ)))
  (xaf:AF K (xcv fX cW bY gj dW iW fW bW di o9 dD fZ iV eY dX lC gh fY dC pq kJ) AS)
  (qT:EK K bY)
  (wD:KA K bY (xcv fX cW bY gj dW iW fW bW di o9 dD fZ iV eY dX lC gh fY dC pq kJ) ["BadName","OsierError","ValueError"] AS)
  (qW:EI bxV K bY "__init__" "BadName.__init__" "name" zM)
  (uW:EK K di)
  (Bh:KA K di (xcv fX cW bY gj dW iW fW bW di o9 dD fZ iV eY dX lC gh fY dC pq kJ) ["BadWeb","OsierError","ValueError"] AS)
  (vf:EI bxV K di "__init__" "BadWeb.__init__" "place" CK)
  (jY:EK K bW)
  (wH:KA K bW (xcv fX cW bY gj dW iW fW bW di o9 dD fZ iV eY dX lC gh fY dC pq kJ) ["BadText","OsierError","ValueError"] AS)
  (wM:PySem.W.excIn K bW [.type "ValueError",.type "Exception",.type "BaseException",.type "object"] "ValueError.__new__"=true)
  (qj:FK K "is_word" uX)
  (jQ:FK K "need_names" rC)
  (qb:FK K "is_item" u5)
  (nH:FK K "met_from" wZ)
  (jM:PySem.W.findIn K (.ref dR) "__init__"=some (some (.ref bO)))
  (jN:PySem.W.isFn K (.ref bO)=true)
  (NP:K.lookup bO=some ⟨Jd,Iu,.func (PySem.W.fnOf "__init__" "Web.__init__" (defArgs bG) (defBody bG) (defScope bG) (.ref rE) v8 vZ wk ww o7 wB),Io⟩)
  (Jg:K.lookup rE=some ⟨.type "tuple",DW,.seq rZ IW,Ez⟩)
  (oY:Vals ([.ref kY,.ref kW]:List V) rZ.toList)
  (ni:K.lookup kY=some ⟨.type "tuple",Ei,.seq ji vP,Hj⟩)
  (jL:ji.size≤sizeLine∧Vals ([]:List V) ji.toList)
  (oF:K.lookup kW=some ⟨.type "tuple",Gz,.seq jm v7,Fd⟩)
  (jP:jm.size≤sizeLine∧Vals ([]:List V) jm.toList)
  (Nz:PySem.W.codeIn K o7 "Web.__init__"=true)
  (Mu:PySem.W.keepIn K (.ref bO)=true)
  (ou:MK K dR "__eq__" "Web.__eq__" xF)
  (jO:MK K dR "__repr__" "Web.__repr__" qG)
  (fJ:MK K dR "name_rows" "Web.name_rows" lO)
  (fP:MK K dR "item_rows" "Web.item_rows" lV)
  (Hv:FK K "mark" TJ)
  (nO:FK K "web_text" oE)
  (lL:FK K "read_mark" oH)
  (lJ:FK K "read_item" oR)
  (mZ:FK K "read_web" xj)
  (yU:FK K "_law_cell" MF)
  (qm:FK K "_law_digits" Ag)
  (yr:FK K "_law_same" MJ)
  (agd:PySem.W.nsIn K mainGlobals "_law_kin"=some (some (.ref nM)))
  (ags:K.lookup nM=some ⟨ac8,adD,.func (PySem.W.fnOf "_law_kin" "_law_kin" (defArgs oh) (defBody oh) (defScope oh) .none WQ Vj Xl Wz Nk Ve),aei⟩)
  (ag8:PySem.W.codeIn K Nk "_law_kin"=true)
  (af9:PySem.W.keepIn K (.ref nM)=true)
  (uK:FK K "_law_names" qd)
  (HH:FK K "_law_met" Uj)
  (t8:FK K "_law_canon" pU)
  (yo:FK K "_law_told" Ot)
  (yR:FK K "_law_mark" Oi)
  (yL:FK K "_law_text" zp)
  (DY:FK K "_law_raw" Tu)
  (pF:FK K "_law_spoilt" Bl)
  (uC:FK K "_law_reads" Ek)
  (afu:PySem.W.nsIn K mainGlobals "law"=some (some (.ref vQ)))
  (aiS:K.lookup vQ=some ⟨afW,afP,.func (PySem.W.fnOf "law" "law" (defArgs uf) (defBody uf) (defScope uf) .none abg abw aaj Zz TX Z0),agD⟩)
  (aiv:PySem.W.codeIn K TX "law"=true)
  (aiT:PySem.W.keepIn K (.ref vQ)=true)
  :∃ fd:FuncData,(∀ (s:Shared) (u:Value),BindsTo s fd ⟨[u],[]⟩ [("_law_script",u)])∧∀ base:Heap,K.In base→base.Ns mainGlobals mg→qu l.prog w K mg base 44 fa fd ["_law_script"] (Em K 63):=by
 have e:vQ=fa:=by
  cases hfa.symm.trans (PySem.W.mg_of X GG afu)
  rfl
 subst e
 have xal:Qw K (xlf bY di bW) (xcv fX cW bY gj dW iW fW bW di o9 dD fZ iV eY dX lC gh fY dC pq kJ) AS XT:=⟨⟨qT,wD⟩,⟨⟨uW,Bh⟩,⟨⟨jY,wH⟩,trivial⟩⟩⟩
 have xax:aaZ K (xlf bY di bW) XF:=⟨qW.fd,⟨vf.fd,⟨trivial,trivial⟩⟩⟩
 have Cq:∀ n c,HX ⟨K,clA dR,xlf bY di bW,none⟩ (Mn n) c ((xcv fX cW bY gj dW iW fW bW di o9 dD fZ iV eY dX lC gh fY dC pq kJ) c):=fun n c=>ajZ (AS:=AS) (T:=XT) uJ xal xaf hn htk c
 let R:Fx w mg ⟨K,clA dR,xlf bY di bW,none⟩:={
  iw:=PySem.W.mg_none_of X GG aj6
  O5:=PySem.W.mg_none_of X GG aiU
  yJ:=PySem.W.mg_none_of X GG ac9
  Hf:=PySem.W.mg_none_of X GG agi
  Qh:=PySem.W.mg_none_of X GG aiF
  aft:=PySem.W.mg_none_of X GG ajb
  aH:=PySem.W.mg_none_of X GG Nf
  abx:=PySem.W.mg_none_of X GG ahC
  Uk:=PySem.W.mg_none_of X GG agV
  tW:=PySem.W.mg_none_of X GG abM
  km:=PySem.W.mg_none_of X GG adU
  oO:=PySem.W.mg_none_of X GG PP
  aeK:=PySem.W.mg_none_of X GG aii
  zA:=PySem.W.mg_none_of X GG Mh
  wC:=PySem.W.mg_none_of X GG Iv
  G8:=PySem.W.mg_none_of X GG Ry
  xY:=PySem.W.mg_none_of X GG Nh
  zV:=.str "0123456789"
  Ae:=.str "0123456789" Jr
  J9:=PySem.W.mg_of X GG YM
  Ju:=⟨_,rfl⟩
  JS:=fun _ _=>by simp only [VR]
  S8:=.int (-1)
  RD:=.int (-1) abV
  uB:=PySem.W.mg_of X GG af5
  tD:=⟨_,rfl⟩
  ue:=fun _ _=>by simp only [VR]
  zN:=.str "abcdefghijklmnopqrstuvwxyz"
  Af:=.str "abcdefghijklmnopqrstuvwxyz" J8
  K8:=PySem.W.mg_of X GG Xv
  Kc:=⟨_,rfl⟩
  Jo:=fun _ _=>by simp only [VR]
  qP:=.int (6)
  qR:=.int (6) zu
  xZ:=PySem.W.mg_of X GG LK
  yq:=⟨_,rfl⟩
  yG:=fun _ _=>by simp only [VR]
  pA:=.int (200)
  o5:=.int (200) wy
  v5:=PySem.W.mg_of X GG Im
  vY:=⟨_,rfl⟩
  vO:=fun _ _=>by simp only [VR]
  Bj:=.int (0)
  Ar:=.int (0) Ky
  mW:=PySem.W.mg_of X GG YZ
  mV:=⟨_,rfl⟩
  mX:=fun _ _=>by simp only [VR]
  hA:=fun c=>De (P:=fun x=>zR K x) (⟨⟨agt,agw,afS,af8⟩,ahq,hn,htk,agj⟩) c
  vz:=fun c=>De (P:=fun x=>NoAttr K x "leads") (QK) c
  vh:=fun c=>De (P:=fun x=>NoAttr K x "spots") (QD) c
  abu:=⟨kit_ty (by decide+kernel),kit_ty (by decide+kernel),kit_ty (by decide+kernel),kit_ty (by decide+kernel),kit_ty (by decide+kernel),kit_ty (by decide+kernel),kit_ty (by decide+kernel)⟩
  nd:=fun c=>De (P:=fun x=>PySem.W.kitOne K (.ref x) (.type "dict")=some false) (agp (by decide+kernel) afJ) c
  WY:=⟨xq wJ wQ Ea,xq wJ wQ RM,xq wJ wQ Yu,xq wJ wQ Yl,xq wJ wQ QS,xq wJ wQ Ss,xq wJ wQ Uh⟩
  CW:=afL
  KJ:=PySem.W.mg_of X GG afO
  Hu:=Hu
  Gh:=Gh
  Ho:=Ho
  U0:=fun T h=>by rcases h with rfl | rfl | rfl;exact ad7;exact ad4;exact aeA
  he:=rfl
  jW:=⟨⟨bxV,SJ,wM,PySem.W.mg_of X GG G5,jY.p,jY.b,jY.t⟩⟩
  qQ:=fX
  Fj:=PySem.W.mg_of X GG Uy
  jR:=cW
  ug:=PySem.W.mg_of X GG G4
  m7:=bY
  xm:=PySem.W.mg_of X GG Hh
  rM:=gj
  Fg:=PySem.W.mg_of X GG Tp
  mQ:=dW
  xU:=PySem.W.mg_of X GG M6
  uZ:=iW
  Lh:=PySem.W.mg_of X GG Yp
  qD:=fW
  El:=PySem.W.mg_of X GG S9
  nq:=bW
  xr:=PySem.W.mg_of X GG G5
  pJ:=di
  Be:=PySem.W.mg_of X GG JK
  Dq:=o9
  Wt:=PySem.W.mg_of X GG ac0
  lB:=dD
  v9:=PySem.W.mg_of X GG Jc
  rQ:=fZ
  Eh:=PySem.W.mg_of X GG U4
  vC:=iV
  Jx:=PySem.W.mg_of X GG Xn
  oJ:=eY
  Bo:=PySem.W.mg_of X GG Q5
  mK:=dX
  yO:=PySem.W.mg_of X GG Oh
  yQ:=lC
  Rc:=PySem.W.mg_of X GG Zk
  qM:=gh
  FT:=PySem.W.mg_of X GG RP
  qX:=fY
  Ij:=PySem.W.mg_of X GG Tf
  lu:=dC
  v4:=PySem.W.mg_of X GG IV
  Di:=pq
  U7:=PySem.W.mg_of X GG aez
  yV:=kJ
  Qe:=PySem.W.mg_of X GG abH
  Ef:=fun n=>Cq n "BadItem"
  uH:=fun n=>Cq n "BadLoftName"
  Fp:=fun n=>Cq n "BadName"
  En:=fun n=>Cq n "BadPage"
  yw:=fun n=>Cq n "BadPoints"
  KD:=fun n=>Cq n "BadRow"
  HR:=fun n=>Cq n "BadRule"
  Gf:=fun n=>Cq n "BadText"
  JH:=fun n=>Cq n "BadWeb"
  Vh:=fun n=>Cq n "Full"
  wj:=fun n=>Cq n "Groundless"
  vU:=fun n=>Cq n "IndexError"
  BP:=fun n=>Cq n "KeyError"
  tV:=fun n=>Cq n "LookupError"
  Ff:=fun n=>Cq n "Missing"
  JX:=fun n=>Cq n "NoName"
  Bm:=fun n=>Cq n "NoNumber"
  za:=fun n=>Cq n "NoProgram"
  QT:=fun n=>Cq n "NoRow"
  Hz:=fun n=>Cq n "NoShape"
  Gg:=fun n=>Cq n "Nothing"
  vX:=fun n=>Cq n "OsierError"
  Vu:=fun n=>Cq n "Shut"
  Pk:=fun n=>Cq n "Taken"
  wg:=fun n=>Cq n "ValueError"
  Fb:=fun n=>aa1 (AS:=AS) (T:=XT) uJ xal xaf "BadName" rfl qT.b qT.d
  GD:=fun n=>aa1 (AS:=AS) (T:=XT) uJ xal xaf "BadText" rfl jY.b jY.d
  Ke:=fun n=>aa1 (AS:=AS) (T:=XT) uJ xal xaf "BadWeb" rfl uW.b uW.d
  Eb:=fun P base=>afv (n0:="self") (n1:="name") SJ qT qW X GG Hh (ps:=["self","name"]) ⟨rfl,rfl,rfl,by decide+kernel,rfl,by decide+kernel,by decide+kernel⟩ rfl rfl (Or.inl rfl) (Or.inl rfl) ⟨by decide,by decide⟩ ⟨by decide,by decide⟩ (fun _=>rfl) (fun _ _ _ _ _ _ us hl=>match us,hl with | [_,_],_=>rfl)
  pP:=fun P base=>afv (n0:="self") (n1:="place") SJ uW vf X GG JK (ps:=["self","place"]) ⟨rfl,rfl,rfl,by decide+kernel,rfl,by decide+kernel,by decide+kernel⟩ rfl rfl (Or.inl rfl) (Or.inl rfl) ⟨by decide,by decide⟩ ⟨by decide,by decide⟩ (fun _=>rfl) (fun _ _ _ _ _ _ us hl=>match us,hl with | [_,_],_=>rfl)
  qj:=je X GG qj
  jQ:=je X GG jQ
  qb:=je X GG qb
  nH:=je X GG nH
  cX:=[.ref kY,.ref kW]
  eV:=rfl
  pB:=fun _ _=>(au.cons (by simp only [VR];exact ⟨kY,_,rfl,.inr (.inr ⟨_,ji,vP,ni,rfl,rfl,jL.1,jL.2⟩),au.nil⟩) (au.cons (by simp only [VR];exact ⟨kW,_,rfl,.inr (.inr ⟨_,jm,v7,oF,rfl,rfl,jP.1,jP.2⟩),au.nil⟩) au.nil))
  bO:=bO
  gq:=PySem.W.fnOf "__init__" "Web.__init__" (defArgs bG) (defBody bG) (defScope bG) (.ref rE) v8 vZ wk ww o7 wB
  mH:=abo (st:=bG) NP Nz Mu Jg oY (by simp) (.inl rfl)
  jM:=jM
  jN:=jN
  ou:=U8 rfl ou
  jO:=U8 rfl jO
  fJ:=U8 rfl fJ
  fP:=U8 rfl fP
  Hv:=je X GG Hv
  nO:=je X GG nO
  lL:=je X GG lL
  lJ:=je X GG lJ
  mZ:=je X GG mZ
  yU:=je X GG yU
  qm:=je X GG qm
  yr:=je X GG yr
  nM:=nM
  zf:=PySem.W.fnOf "_law_kin" "_law_kin" (defArgs oh) (defBody oh) (defScope oh) .none WQ Vj Xl Wz Nk Ve
  Nv:=zF (st:=oh) ags ag8 af9 (.inl rfl)
  ZZ:=PySem.W.mg_of X GG agd
  uK:=je X GG uK
  HH:=je X GG HH
  t8:=je X GG t8
  yo:=je X GG yo
  yR:=je X GG yR
  yL:=je X GG yL
  DY:=je X GG DY
  pF:=je X GG pF
  uC:=je X GG uC
  vQ:=vQ
  Oj:=PySem.W.fnOf "law" "law" (defArgs uf) (defBody uf) (defScope uf) .none abg abw aaj Zz TX Z0
  aat:=zF (st:=uf) aiS aiv aiT (.inl rfl)
  ajG:=PySem.W.mg_of X GG afu
 }
 exact ⟨R.Oj,alL (ps:=["_law_script"]) R.aat fun _ _ _ _ _ _ _=>rfl,fun base _ _=>agX R (afz R 10) U6⟩
end K04
set_option maxHeartbeats 4000000
namespace K04
open PySem L2 Oz
def abc:Str:="abcdefghijklmnopqrstuvwxyz"
structure yH (z:Str):Prop where
 lo:1≤z.length
 hi:z.length≤6
 al:∀ c∈z.cps.toList,c∈abc.cps.toList
theorem afY {M:aF} {d:jU} {xs:List Vl} {S T:Hs} {η:Sg} (hl:xs.length=d.np) (hb:exec M d.body (xs.map some++List.replicate (d.nn - xs.length) none) S=.nx η (S++T)) (hS:NR S):gK M d xs S=.ok (.val .non) S:=by
 unfold gK
 rw [if_pos hl,hb]
 simp only
 have ht:(S++T).take S.length=S:=by simp
 have hT:NR ((S++T).take S.length):=by rw [ht];exact hS
 rw [Fw hT (by simp only [Vl.nr]),ht]
theorem jX {z:Str} {x:Vl} (h:x∈iI z):∃ c∈z.cps.toList,x=.str ⟨#[c]⟩:=by
 unfold iI at h
 obtain ⟨c,h1,rfl⟩:=List.mem_map.mp h
 exact ⟨c,h1,rfl⟩
theorem wX (z:Str):(iI z).length=z.length:=by
 unfold iI
 rw [List.length_map];rfl
theorem jf {n:Nat} (h:n≤1000000):n≤sizeLine:=Nat.le_trans h (by decide)
theorem QG {α:Type} (f:α→Bool):∀ xs:List α,allB (xs.map fun x=>Vl.bl (f x))=some (xs.map f)
 | []=>rfl
 | x::xs=>by simp only [List.map_cons,allB,afG,QG f xs]
theorem Dh {α:Type} (S:Hs) (f:α→Bool) (xs:List α):gY .all S (.lst (xs.map fun x=>Vl.bl (f x)))=some (.bl (xs.all f)):=by
 simp only [gY,bV,Option.bind_some,QG,Option.map_some,List.all_map]
 rfl
def VL (c:Nat):Bool:=decide (c∈abc.cps.toList)
def agc (z:Str):Bool:=z.cps.toList.all VL
def isW (z:Str) (lo hi:Int):Bool:=(decide (lo≤(z.length:Int))&&decide ((z.length:Int)≤hi))&&agc z
def fCh (x:Vl):Vl:=match x with
 | .str s=>.bl (VL (s.cps.getD 0 0))
 | _=>.non
theorem Yd (z:Str):(iI z).map fCh=z.cps.toList.map fun c=>Vl.bl (VL c):=by
 unfold iI
 rw [List.map_map]
 rfl
theorem Yz (n:Nat) {z:Str} (hz:z.length≤1000) {a b c:Option Vl} (S:Hs):d9 (Mn n) wG [some (.str z),a,b,c] S=.ok (.lst (z.cps.toList.map fun c=>.bl (VL c))) S:=by
 rw [← Yd]
 unfold wG
 refine fM [] (iI z) fCh (zB (v_var rfl)) (aU S) (by rw [wX];omega) (fun x hx=> ?_) fun x hx aQ _=> ?_
 ·obtain ⟨d,_,rfl⟩:=jX hx
  simp only [fCh,Vl.nr]
 ·obtain ⟨d,_,rfl⟩:=jX hx
  refine ⟨_,rfl,aK (v_var rfl) aj ?_⟩
  simp only [cmpop,lU]
  rw [if_pos (show (⟨#[d]⟩:Str).length=1 from rfl)]
  rfl
theorem Yw (n:Nat) {z:Str} (hz:z.length≤1000) (lo hi:Int) {S:Hs} (hS:NR S):gK (Mn n) z7 [.str z,.int lo,.int hi] S=.ok (.val (.bl (isW z lo hi))) S:=by
 refine cY (T:=[]) rfl ?_ hS (by simp only [Vl.nr])
 show exec (Mn n) Kg [some (.str z),some (.int lo),some (.int hi),none] S=_
 have hl:gY .len S (.str z)=some (.int z.length):=if_pos (jf (by omega))
 rw [List.append_nil]
 refine bF (dI _ _ ?_)
 unfold isW
 by_cases c1:lo≤(z.length:Int)
 ·by_cases c2:(z.length:Int)≤hi
  ·rw [decide_eq_true c1,decide_eq_true c2,Bool.true_and,Bool.true_and]
   exact oW (Ks (d1:=true) (v_var rfl) (dG (v_var rfl) hl) (congrArg some (decide_eq_true c1)) (v_var rfl) (congrArg some (decide_eq_true c2))) (dG (du (Yz n hz S)) (Dh S _ _))
  ·rw [decide_eq_true c1,decide_eq_false c2]
   exact wO (Ks (d1:=true) (v_var rfl) (dG (v_var rfl) hl) (congrArg some (decide_eq_true c1)) (v_var rfl) (congrArg some (decide_eq_false c2)))
 ·rw [decide_eq_false c1]
  exact wO (LC (v_var rfl) (dG (v_var rfl) hl) (congrArg some (decide_eq_false c1)))
theorem aaB (n:Nat) {z:Str} (hz:z.length≤1000) (lo hi:Int) {S:Hs} (hS:NR S):(Mn (n+1)).cal "is_word" [.str z,.int lo,.int hi] S=.ok (.val (.bl (isW z lo hi))) S:=by
 rw [Ku];exact Yw n hz lo hi hS
theorem aa3 {z:Str} (h:yH z):isW z 1 6=true:=by
 unfold isW agc
 have h1:=h.lo
 have h2:=h.hi
 rw [decide_eq_true (by omega),decide_eq_true (by omega),Bool.true_and,Bool.true_and,List.all_eq_true]
 exact fun c hc=>decide_eq_true (h.al c hc)
abbrev dh:=List (Str × Int)
def valN (nm:dh):List Vl:=nm.map fun p=>.tup [.str p.1,.int p.2]
theorem LR (nm:dh):dH (valN nm)=true:=uN fun x hx=>by
 obtain ⟨p,_,rfl⟩:=List.mem_map.mp hx
 simp [Vl.nr,dH]
theorem jT (nm:dh):(valN nm).length=nm.length:=by unfold valN;rw [List.length_map]
theorem WM {nm:dh} {i:Nat} {x:Vl} (h:(valN nm)[i]? =some x):∃ p,nm[i]? =some p∧x=.tup [.str p.1,.int p.2]:=by
 unfold valN at h
 rw [List.getElem?_map] at h
 obtain ⟨p,h1,rfl⟩:=Option.map_eq_some_iff.mp h
 exact ⟨p,h1,rfl⟩
theorem aaY {nm:dh} {i:Nat} {p:Str × Int} (h:nm[i]? =some p):(valN nm)[i]? =some (.tup [.str p.1,.int p.2]):=by
 unfold valN;rw [List.getElem?_map,h];rfl
theorem cO {α:Type} {xs:List α} {i:Nat} {x:α} (h:xs[i]? =some x):xs.take (i+1)=xs.take i++[x]:=by
 rw [List.take_add_one,h];rfl
theorem uL {α:Type} {xs:List α} {i:Nat} {x:α} (nd:xs.Nodup) (h:xs[i]? =some x):x∉xs.take i:=fun hx=>by
 obtain ⟨j,hj⟩:=List.getElem?_of_mem hx
 rw [List.getElem?_take] at hj
 split at hj
 ·rename_i hl
  have:=(List.getElem?_inj ((List.getElem?_eq_some_iff.mp hj).1) nd).mp (hj.trans h.symm)
  omega
 ·cases hj
def iJ (nm:dh) (i:Nat):Bool:=match nm[i]? with
 | some p=>isW p.1 1 6&&decide (p.1∉(nm.map (·.1)).take i)
 | none=>true
theorem Ah (P:Nat→Bool):∀ n:Nat,(∀ i,i<n→P i=true)∨∃ j,j<n∧P j=false∧∀ i,i<j→P i=true
 | 0=>.inl fun i h=>absurd h (Nat.not_lt_zero i)
 | n+1=>by
  rcases Ah P n with h | ⟨j,h1,h2,h3⟩
  ·cases c:P n with
   | true=>
    refine .inl fun i hi=> ?_
    by_cases e:i=n
    ·rw [e];exact c
    ·exact h i (by omega)
   | false=>exact .inr ⟨n,by omega,c,h⟩
  ·exact .inr ⟨j,by omega,h2,h3⟩
theorem HW {nm:dh} {i:Nat} {p:Str × Int} (h:nm[i]? =some p) (g:iJ nm i=true):isW p.1 1 6=true∧p.1∉(nm.map (·.1)).take i:=by
 unfold iJ at g
 rw [h] at g
 simp only [Bool.and_eq_true,decide_eq_true_eq] at g
 exact g
theorem aeE {nm:dh} {i:Nat} {p:Str × Int} (h:nm[i]? =some p) (g:iJ nm i=false):isW p.1 1 6=false∨(isW p.1 1 6=true∧p.1∈(nm.map (·.1)).take i):=by
 unfold iJ at g
 simp only [h] at g
 cases c:isW p.1 1 6 with
 | false=>exact .inl rfl
 | true=>
  simp only [c,Bool.true_and,decide_eq_false_iff_not,Classical.not_not] at g
  exact .inr ⟨rfl,g⟩
theorem acD {nm:dh} (h:∀ i,i<nm.length→iJ nm i=true):(nm.map (·.1)).Nodup:=by
 unfold List.Nodup
 rw [List.pairwise_iff_getElem]
 intro i j hi hj hij e
 have hjl:j<nm.length:=by simpa using hj
 have hpj:nm[j]? =some nm[j]:=List.getElem?_eq_getElem hjl
 refine (HW hpj (h j hjl)).2 ?_
 have Rw:i<nm.length:=by omega
 have e2:nm[i].1=nm[j].1:=by simpa using e
 rw [← e2]
 exact List.mem_of_getElem? (i:=i) (by rw [List.getElem?_take_of_lt hij,List.getElem?_map,List.getElem?_eq_getElem Rw];rfl)
def sN (nm:dh) (v:Vl) (S:Hs) (i:Nat) (η:Sg) (S':Hs):Prop:=∃ vs a2 a3,η=[some v,some (.ref S.length),a2,a3]∧S'=S++[.dct (((nm.map (·.1)).take i).map Sum.inr) vs]∧vs.length=((nm.map (·.1)).take i).length∧dH vs=true
theorem Qv {nm:dh} {S:Hs} {i:Nat} {vs:List Vl} {z:Str}:lU (S++[.dct (((nm.map (·.1)).take i).map Sum.inr) vs]) (.str z) (.ref S.length)=some (decide (z∈(nm.map (·.1)).take i)):=by
 rw [XM (ks:=((nm.map (·.1)).take i).map Sum.inr) (vs:=vs) (by simp only [aX,List.getElem?_concat_length])]
 congr 1
 generalize (nm.map (·.1)).take i=l
 rw [Bool.eq_iff_iff,List.any_eq_true,decide_eq_true_eq]
 constructor
 ·rintro ⟨k,hk,e⟩
  obtain ⟨y,hy,rfl⟩:=List.mem_map.mp hk
  rw [decide_eq_true_eq] at e
  exact Sum.inr.inj e ▸ hy
 ·exact fun h=>⟨Sum.inr z,List.mem_map.mpr ⟨z,h,rfl⟩,decide_eq_true rfl⟩
theorem K6 (n:Nat) {nm:dh} (hz:∀ p∈nm,p.1.length≤1000) (hl:nm.length≤1000) (v:Vl) {S:Hs} (hS:NR S) {i:Nat} {x:Vl} {η:Sg} {S':Hs} (hx:(valN nm)[i]? =some x) (hg:iJ nm i=true) (h:sN nm v S i η S') :
  ∃ η1,aZ (.tp (.cons (.nm 2) (.cons (.nm 3) .nil))) x η=some η1∧∃ η2 S2,(exec (Mn (n+1)) iK η1 S'=.nx η2 S2∨exec (Mn (n+1)) iK η1 S'=.cnt η2 S2)∧sN nm v S (i+1) η2 S2:=by
 obtain ⟨vs,a2,a3,e1,e2,e3,e4⟩:=h
 subst e1 e2
 obtain ⟨p,hp,rfl⟩:=WM hx
 have hp1:(nm.map (·.1))[i]? =some p.1:=by rw [List.getElem?_map,hp];rfl
 have W8:NR (S++[.dct (((nm.map (·.1)).take i).map Sum.inr) vs]):=hS.one (by simpa only [Ob.nr] using e4)
 obtain ⟨g1,hni⟩:=HW hp hg
 have rw_:=aaB n (hz p (List.mem_of_getElem? hp)) 1 6 W8
 rw [g1] at rw_
 refine ⟨_,rfl,_,_,.inl (aq (bD _ (uE (jK (d:=true) (bJ (r:=.val (.bl true)) (aa (v_var rfl) (aa aj (aa aj az))) rw_)) (aK (v_var rfl) (v_var rfl) ?_)) aM) (aq (qK aj (v_var rfl) (v_var rfl) (jF (kk:=Sum.inr p.1) List.getElem?_concat_length rfl ?_)) aM)),?_⟩
 ·show lU _ (.str p.1) (.ref S.length)=some false
  rw [Qv,decide_eq_false hni]
 ·have:=(List.getElem?_eq_some_iff.mp hp).1
  simp only [List.length_take,List.length_map];omega
 ·refine ⟨vs++[.bl true],_,_,rfl,?_,?_,nQ e4 (by simp [dH,Vl.nr])⟩
  ·rw [tZ (fun hk=>by
    obtain ⟨z,hz,e⟩:=List.mem_map.mp hk
    exact hni (Sum.inr.inj e ▸ hz)),cO hp1,List.map_append]
   simp
  ·rw [cO hp1,List.length_append,List.length_append,e3];rfl
theorem XR (n:Nat) {nm:dh} (hz:∀ p∈nm,p.1.length≤1000) (hl:nm.length≤1000) (hg:∀ i,i<nm.length→iJ nm i=true) {v:Vl} {S:Hs} (hv:∃ lk,∀ T,lZ (S++T) v=some (lk,valN nm)∧cP lk (S++T)) (hS:NR S):(Mn (n+2)).cal "need_names" [v] S=.ok (.val .non) S:=by
 rw [qU]
 obtain ⟨lk,hv⟩:=hv
 obtain ⟨η',S',h1,vs,a2,a3,rfl,rfl,_,_⟩:=gW (body:=fun η1 S2=>exec (Mn (n+1)) iK η1 S2) (t:=.tp (.cons (.nm 2) (.cons (.nm 3) .nil))) (lk:=lk) (xs:=valN nm) (η:=[some v,some (.ref S.length),none,none]) (S:=S++[.dct [] []])
  (sN nm v S) ⟨[],none,none,rfl,rfl,rfl,by simp only [dH]⟩ (fun i η S' ⟨_,_,_,_,e2,_⟩=>by rw [e2];exact (hv _).2) fun i x η S' hx h=>K6 n hz hl v hS hx (hg i (by rw [← jT];exact (List.getElem?_eq_some_iff.mp hx).1)) h
 exact afY rfl (aq (bz _ _ (nY Gr) rfl) (aq (jJ _ _ _ (iG (v_var rfl) (hv _).1) h1) aM)) hS
theorem SQ (n:Nat) {nm:dh} (hz:∀ p∈nm,p.1.length≤1000) (hl:nm.length≤1000) {j:Nat} {p:Str × Int} (hp:nm[j]? =some p) (hb:iJ nm j=false) (hg:∀ i,i<j→iJ nm i=true) {v:Vl} {S:Hs} (hv:∃ lk,∀ T,lZ (S++T) v=some (lk,valN nm)∧cP lk (S++T)) (hS:NR S) :
  (Mn (n+2)).cal "need_names" [v] S=.exc ⟨"BadName",some (["name"],[.str p.1])⟩ S:=by
 rw [qU]
 obtain ⟨lk,hv⟩:=hv
 obtain ⟨η',S',⟨vs,a2,a3,e1,e2,e3,e4⟩,hend⟩:=Rm (body:=fun η1 S2=>exec (Mn (n+1)) iK η1 S2) (t:=.tp (.cons (.nm 2) (.cons (.nm 3) .nil))) (lk:=lk) (xs:=valN nm) (η:=[some v,some (.ref S.length),none,none]) (S:=S++[.dct [] []])
  (sN nm v S) j ⟨[],none,none,rfl,rfl,rfl,by simp only [dH]⟩ (fun i η S' ⟨_,_,_,_,e2,_⟩=>by rw [e2];exact (hv _).2) (aaY hp) fun i x η S' hi hx h=>K6 n hz hl v hS hx (hg i hi) h
 subst e1 e2
 have W8:NR (S++[.dct (((nm.map (·.1)).take j).map Sum.inr) vs]):=hS.one (by simpa only [Ob.nr] using e4)
 have rw_:=aaB n (hz p (List.mem_of_getElem? hp)) 1 6 W8
 have test:ev (Mn (n+1)) (.bor (.pK (.call "is_word" (.cons (.var 2) (.cons (.cst (.int 1)) (.cons (.cst (.int 6)) .nil))))) (.cmp .In (.var 2) (.var 1))) [some v,some (.ref S.length),some (.str p.1),some (.int p.2)] (S++[.dct (((nm.map (·.1)).take j).map Sum.inr) vs])=.ok (.bl true) (S++[.dct (((nm.map (·.1)).take j).map Sum.inr) vs]):=by
  rcases aeE hp hb with c | ⟨c,d⟩
  ·rw [c] at rw_
   exact Ra (jK (d:=false) (bJ (r:=.val (.bl false)) (aa (v_var rfl) (aa aj (aa aj az))) rw_))
  ·rw [c] at rw_
   refine uE (jK (d:=true) (bJ (r:=.val (.bl true)) (aa (v_var rfl) (aa aj (aa aj az))) rw_)) (aK (v_var rfl) (v_var rfl) ?_)
   show lU _ (.str p.1) (.ref S.length)=some true
   rw [Qv,decide_eq_true d]
 have ab3:=hend _ _ rfl (cA (cQ _ test (cA (x_raise (v_var rfl) (nW (n+1)))))) (.inl ⟨_,_,_,rfl⟩)
 exact Mr (T:=[Ob.dct (((nm.map fun p:Str × Int=>p.1).take j).map Sum.inr) vs]) rfl (aq (bz _ _ (nY Gr) rfl) (cA (jJ _ _ _ (iG (v_var rfl) (hv _).1) ab3))) hS (fun ns vs e=>by cases e;simp [dH,Vl.nr])
abbrev Its:=List (Str × List Int)
def aY (it:Its):List Vl:=it.map fun p=>.tup [.str p.1,.tup (p.2.map .int)]
theorem rP (it:Its):dH (aY it)=true:=uN fun x hx=>by
 obtain ⟨p,_,rfl⟩:=List.mem_map.mp hx
 simp [Vl.nr,dH,dU]
theorem fQ (it:Its):(aY it).length=it.length:=by unfold aY;rw [List.length_map]
theorem V8 {it:Its} {i:Nat} {x:Vl} (h:(aY it)[i]? =some x):∃ p,it[i]? =some p∧x=.tup [.str p.1,.tup (p.2.map .int)]:=by
 unfold aY at h
 rw [List.getElem?_map] at h
 obtain ⟨p,h1,rfl⟩:=Option.map_eq_some_iff.mp h
 exact ⟨p,h1,rfl⟩
theorem pM {it:Its} {i:Nat} {p:Str × List Int} (h:it[i]? =some p):(aY it)[i]? =some (.tup [.str p.1,.tup (p.2.map .int)]):=by
 unfold aY;rw [List.getElem?_map,h];rfl
def inR (many t:Int):Bool:=decide (-1≤t)&&decide (t≤many)
def nD (w:Str) (ts:List Int):Bool:=if w=("cell":Str) then decide (ts.length=2) else isW w 2 8&&decide (ts.length≤2)
def dZ (many:Int) (p:Str × List Int):Bool:=nD p.1 p.2&&p.2.all (inR many)
def agg (many:Int) (x:Vl):Vl:=match x with
 | .int t=>.bl (inR many t)
 | _=>.non
theorem afy {M:aF} {η:Sg} {S:Hs} {a b c:E} {t hi:Int} (ha:ev M a η S=.ok (.int (-1)) S) (hb:ev M b η S=.ok (.int t) S) (hc:ev M c η S=.ok (.int hi) S):ev M (.Ru .LtE .LtE a b c) η S=.ok (.bl (inR hi t)) S:=by
 unfold inR
 by_cases c1: -1≤t
 ·rw [decide_eq_true c1,Bool.true_and]
  exact Ks (d1:=true) ha hb (congrArg some (decide_eq_true c1)) hc rfl
 ·rw [decide_eq_false c1]
  exact LC ha hb (congrArg some (decide_eq_false c1))
theorem aid (n:Nat) {many:Int} {ts:List Int} (hl:ts.length≤1000) {w:Vl} {a:Option Vl} {b:Option Vl} (S:Hs):d9 (Mn n) qN [some w,some (.tup (ts.map .int)),some (.int many),a,b] S=.ok (.lst (ts.map fun t=>.bl (inR many t))) S:=by
 have e:(ts.map fun t=>Vl.bl (inR many t))=(ts.map Vl.int).map (agg many):=by rw [List.map_map];rfl
 rw [e]
 unfold qN
 refine fM [] (ts.map .int) (agg many) (iG (v_var rfl) rfl) (aU S) (by rw [List.length_map];omega) (fun x hx=> ?_) fun x hx aQ _=> ?_
 ·obtain ⟨t,_,rfl⟩:=List.mem_map.mp hx
  simp only [agg,Vl.nr]
 ·obtain ⟨t,ht,rfl⟩:=List.mem_map.mp hx
  exact ⟨_,rfl,afy aj (v_var rfl) (v_var rfl)⟩
theorem ahG (n:Nat) {many:Int} {p:Str × List Int} (hw:p.1.length≤1000) (ht:p.2.length≤1000) {S:Hs} (hS:NR S):(Mn (n+2)).cal "is_item" [.str p.1,.tup (p.2.map .int),.int many] S=.ok (.val (.bl (dZ many p))) S:=by
 rw [JF]
 refine cY (T:=[]) rfl ?_ hS (by simp only [Vl.nr])
 show exec (Mn (n+1)) Lf [some (.str p.1),some (.tup (p.2.map .int)),some (.int many),none,none] S=_
 rw [List.append_nil]
 have fin:∀ g:Bool,exec (Mn (n+1)) (.cons (.ret (.band (.var 3) (.b1 .all (.inl qN)))) .nil) [some (.str p.1),some (.tup (p.2.map .int)),some (.int many),some (.bl g),none] S=.ret (.val (.bl (g&&p.2.all (inR many)))) S:=fun g=>by
  cases g with
  | true=>rw [Bool.true_and];exact bF (dI _ _ (oW (v_var rfl) (dG (du (aid (n+1) ht S)) (Dh S _ _))))
  | false=>exact bF (dI _ _ (wO (v_var rfl)))
 have ln:∀ S,gY .len S (.tup (p.2.map Vl.int))=some (.int p.2.length):=fun S=>by rw [Xb,List.length_map]
 unfold dZ
 refine aq (η1:=[some (.str p.1),some (.tup (p.2.map .int)),some (.int many),some (.bl (nD p.1 p.2)),none]) ?_ (fin _)
 unfold nD
 by_cases c:p.1=("cell":Str)
 ·rw [if_pos c]
  refine cQ _ (aK (v_var rfl) aj (congrArg some (decide_eq_true c))) (aq (bz _ _ (aK (d:=decide (p.2.length=2)) (dG (v_var rfl) (ln S)) aj ?_) rfl) aM)
  show some (decide ((p.2.length:Int)=2))=_
  congr 1
  rw [Bool.eq_iff_iff,decide_eq_true_eq,decide_eq_true_eq]
  omega
 ·rw [if_neg c]
  refine bD _ (aK (v_var rfl) aj (congrArg some (decide_eq_false c))) (aq (bz _ _ ?_ rfl) aM)
  have hc:=aaB n hw 2 8 hS
  cases d:isW p.1 2 8 with
  | false=>
   rw [d] at hc
   exact wO (bJ (r:=.val (.bl false)) (aa (v_var rfl) (aa aj (aa aj az))) hc)
  | true=>
   rw [d] at hc
   rw [Bool.true_and]
   refine oW (bJ (r:=.val (.bl true)) (aa (v_var rfl) (aa aj (aa aj az))) hc) (aK (dG (v_var rfl) (ln S)) aj ?_)
   show some (decide ((p.2.length:Int)≤2))=_
   congr 1
   rw [Bool.eq_iff_iff,decide_eq_true_eq,decide_eq_true_eq]
   omega
end K04
namespace K04
open PySem L2 Oz
def zs (ns:List Int):Vl:=.lst (ns.map .int)
theorem Qa {ns:List Int} {i:Nat} {x:Vl} (h:(ns.map Vl.int)[i]? =some x):∃ z,ns[i]? =some z∧x=.int z:=by
 rw [List.getElem?_map] at h
 obtain ⟨z,h1,rfl⟩:=Option.map_eq_some_iff.mp h
 exact ⟨z,h1,rfl⟩
theorem agF (n:Nat) (ns:List Int) {k:Nat} {S:Hs} (hS:NR S):∃ z:Int,(Mn (n+1)).cal "_law_cell" [zs ns,.int k] S=.ok (.val (.int z)) S:=by
 by_cases hk:k<ns.length
 ·obtain ⟨z,hz⟩:∃ z,ns[k]? =some z:=⟨_,List.getElem?_eq_getElem hk⟩
  refine ⟨z,?_⟩
  rw [Oa]
  refine cY (T:=[]) rfl ?_ hS (by simp only [Vl.nr])
  show exec (Mn n) ym [some (zs ns),some (.int k),none,none] S=_
  have h1:decide ((k:Int)<(((ns.map Vl.int).length:Nat):Int))=true:=decide_eq_true (by rw [List.length_map];omega)
  have h2:(ns.map Vl.int)[k]? =some (.int z):=by rw [List.getElem?_map,hz];rfl
  unfold ym
  simp only [Oz.exec,aP,ev,Res.out,Res.bind,List.getElem?_cons_zero,List.getElem?_cons_succ,zs,mJ,ig,cmpop,h1,jE h2,List.append_nil]
 ·have h1:decide ((k:Int)<(((ns.map Vl.int).length:Nat):Int))=false:=decide_eq_false (by rw [List.length_map];omega)
  obtain ⟨η',S',e1,e2,b,a3,hb0,hb1,e3⟩:=gW (body:=fun η1 S2=>Oz.exec (Mn n) DN η1 S2) (t:=.nm 3) (lk:=[]) (xs:=ns.map Vl.int) (η:=[some (zs ns),some (.int k),some (.int 17),none]) (S:=S)
   (fun i η T=>T=S∧∃ (b:Int) (a3:Option Vl),0≤b∧b<1000003∧η=[some (zs ns),some (.int k),some (.int b),a3]) ⟨rfl,17,none,by omega,by omega,rfl⟩ (fun _ _ _ _=>aU _)
   (fun i x η T ex ⟨q1,b,a3,q2,q3,q4⟩=>by
    subst q1 q4
    obtain ⟨z,_,rfl⟩:=Qa ex
    refine ⟨_,rfl,[some (zs ns),some (.int k),some (.int ((b* 31+z)%1000003)),some (.int z)],T,.inl ?_,rfl,_,_,Int.emod_nonneg _ (by omega),Int.emod_lt_of_pos _ (by omega),rfl⟩
    unfold DN
    simp only [Oz.exec,aP,ev,Res.out,Res.bind,List.getElem?_cons_zero,List.getElem?_cons_succ,List.set_cons_zero,List.set_cons_succ,ig,aZ,fj,Fo (i:=b) (j:=31) (by omega) (by omega),jy (j:=1000003) (by omega)])
  subst e2 e3
  refine ⟨(b+1)* (k+3)* 7919%2147483629,?_⟩
  rw [Oa]
  refine cY (T:=[]) rfl ?_ hS (by simp only [Vl.nr])
  show exec (Mn n) ym [some (zs ns),some (.int k),none,none] S'=_
  have m1:=rF (i:=b+1) (j:=k+3) (by omega) (by omega)
  unfold ym
  simp only [zs] at e1
  simp only [Oz.exec,aP,ev,pH,lZ,Res.out,Res.bind,List.getElem?_cons_zero,List.getElem?_cons_succ,List.set_cons_zero,List.set_cons_succ,aZ,zs,mJ,ig,cmpop,h1,e1,fj,m1,Fo (i:=(b+1)* (k+3)) (j:=7919) (by omega) (by omega),jy (j:=2147483629) (by omega),List.append_nil]
structure YS (sizes ds:List Int):Prop where
 len:ds.length=sizes.length
 at_:∀ (i:Nat) (d s:Int),ds[i]? =some d→sizes[i]? =some s→0≤d∧d<s
theorem Kr {sizes ds:List Int} {y s:Int} (h:∀ (i:Nat) (d s:Int),ds[i]? =some d→sizes[i]? =some s→0≤d∧d<s) (hs:sizes[ds.length]? =some s) (h0:0≤y) (h1:y<s):∀ (i:Nat) (d s:Int),(ds++[y])[i]? =some d→sizes[i]? =some s→0≤d∧d<s:=by
 intro i d s' e1 e2
 by_cases hi:i<ds.length
 ·rw [List.getElem?_append_left hi] at e1
  exact h i d s' e1 e2
 ·by_cases hj:i=ds.length
  ·subst hj
   rw [List.getElem?_concat_length] at e1
   cases e1
   rw [hs] at e2;cases e2
   exact ⟨h0,h1⟩
  ·rw [List.getElem?_eq_none (by simp;omega)] at e1;cases e1
theorem Ur (n:Nat) (ns:List Int) {k:Nat} {sizes:List Int} (hz:∀ s∈sizes,0<s∧s<1073741824) (hl:sizes.length≤1000) {S:Hs} (hS:NR S) {c p:Int} (hc:(Mn (n+1)).cal "_law_cell" [zs ns,.int k] S=.ok (.val (.int c)) S) (hp:binop .Pow (.int 10) (.int 18)=some (.int p)) (hb:p≤c):∃ ds:List Int,YS sizes ds∧(Mn (n+2)).cal "_law_digits" [zs ns,.int k,zs sizes] S=.ok (.frs (.lst (ds.map .int))) S:=by
 obtain ⟨η',S',e1,ds,rest,a6,hd,hd2,e2,e3⟩:=gW (body:=fun η1 S2=>Oz.exec (Mn (n+1)) xM η1 S2) (t:=.nm 6) (lk:=[]) (xs:=sizes.map Vl.int) (η:=[some (zs ns),some (.int k),some (zs sizes),some (.int c),some (.ref S.length),some (.int (c - p)),none,none,none,none]) (S:=S++[.lst []])
  (fun i η T=>∃ (ds:List Int) (rest:Int) (a6:Option Vl),ds.length=i∧(∀ (i:Nat) (d s:Int),ds[i]? =some d→sizes[i]? =some s→0≤d∧d<s)∧T=S++[.lst (ds.map .int)]∧η=[some (zs ns),some (.int k),some (zs sizes),some (.int c),some (.ref S.length),some (.int rest),a6,none,none,none])
  ⟨[],_,none,rfl,fun i d s e=>by simp at e,rfl,rfl⟩ (fun _ _ _ _=>aU _)
  (fun i x η T ex ⟨ds,rest,a6,q1,q2,q3,q4⟩=>by
   subst q3 q4
   obtain ⟨s,hs,rfl⟩:=Qa ex
   have ss:=hz s (List.mem_of_getElem? hs)
   have il:i<sizes.length:=(List.getElem?_eq_some_iff.mp hs).1
   refine ⟨_,rfl,[some (zs ns),some (.int k),some (zs sizes),some (.int c),some (.ref S.length),some (.int (rest / s)),some (.int s),none,none,none],S++[.lst ((ds++[rest%s]).map .int)],.inl ?_,ds++[rest%s],_,_,by simp [q1],Kr q2 (by rw [q1];exact hs) (Int.emod_nonneg _ (by omega)) (Int.emod_lt_of_pos _ ss.1),rfl,rfl⟩
   have hm:=lw (xs:=ds.map Vl.int) (y:=.int (rest%s)) (by rw [List.length_map];omega)
   unfold xM
   simp only [Oz.exec,aP,ev,evs,Res.out,Res.bind,List.getElem?_cons_zero,List.getElem?_cons_succ,List.set_cons_zero,List.set_cons_succ,ig,aZ,jo,jy ss.1,Ug ss.1 ss.2,List.getElem?_concat_length,hm,iU,List.map_append,List.map_cons,List.map_nil])
 subst e2 e3
 refine ⟨ds,⟨by rw [hd,List.length_map],hd2⟩,?_⟩
 rw [zW]
 refine vB (r:=0) (T:=[.lst (ds.map .int)]) rfl ?_ hS rfl (dU _)
 show exec (Mn (n+1)) pQ [some (zs ns),some (.int k),some (zs sizes),none,none,none,none,none,none,none] S=_
 have h1:decide (p≤c)=true:=decide_eq_true hb
 unfold pQ
 simp only [zs] at e1 hc
 simp only [Oz.exec,aP,ev,evs,d9,pH,lZ,Res.out,Res.bind,List.getElem?_cons_zero,List.getElem?_cons_succ,List.set_cons_zero,List.set_cons_succ,aZ,zs,ig,pX,hc,Rv.v,List.length_nil,sizeLine,Nat.zero_le,if_true,hp,cmpop,h1,Rk,e1,Nat.add_zero]
theorem Nt (n:Nat) (ns:List Int) {k:Nat} {sizes:List Int} (hz:∀ s∈sizes,0<s∧s<1073741824) (hl:sizes.length≤1000) {S:Hs} (hS:NR S) {c p:Int} (hc:(Mn (n+1)).cal "_law_cell" [zs ns,.int k] S=.ok (.val (.int c)) S) (hp:binop .Pow (.int 10) (.int 18)=some (.int p)) (hb:¬ p≤c):∃ ds:List Int,YS sizes ds∧(Mn (n+2)).cal "_law_digits" [zs ns,.int k,zs sizes] S=.ok (.frs (.lst (ds.map .int))) S:=by
 obtain ⟨η',S',e1,ds,one,a8,a9,hd,h0,hq,hd2,e2,e3⟩:=gW (body:=fun η1 S2=>Oz.exec (Mn (n+1)) wU η1 S2) (t:=.nm 8) (lk:=[]) (xs:=jd 0 sizes.length) (η:=[some (zs ns),some (.int k),some (zs sizes),some (.int c),some (.ref S.length),none,none,some (.int (c%2147483647)),none,none]) (S:=S++[.lst []])
  (fun i η T=>∃ (ds:List Int) (one:Int) (a8 a9:Option Vl),ds.length=i∧0≤one∧one<2147483648∧(∀ (i:Nat) (d s:Int),ds[i]? =some d→sizes[i]? =some s→0≤d∧d<s)∧T=S++[.lst (ds.map .int)]∧η=[some (zs ns),some (.int k),some (zs sizes),some (.int c),some (.ref S.length),none,none,some (.int one),a8,a9])
  ⟨[],_,none,none,rfl,Int.emod_nonneg _ (by omega),Int.lt_trans (Int.emod_lt_of_pos _ (by omega)) (by omega),fun i d s e=>by simp at e,rfl,rfl⟩ (fun _ _ _ _=>aU _)
  (fun i x η T ex ⟨ds,one,a8,a9,q1,p0,p1,q2,q3,q4⟩=>by
   subst q3 q4
   obtain ⟨il,rfl⟩:=qI ex
   obtain ⟨s,hs⟩:∃ s,sizes[i]? =some s:=⟨_,List.getElem?_eq_getElem il⟩
   have ss:=hz s (List.mem_of_getElem? hs)
   have CJ:(sizes.map Vl.int)[i]? =some (.int s):=by rw [List.getElem?_map,hs];rfl
   obtain ⟨one',ho⟩:∃ o,o=(one* 48271+10007* ((i:Int)+1))%2147483629:=⟨_,rfl⟩
   have o0:0≤one':=by rw [ho];exact Int.emod_nonneg _ (by omega)
   have o1:one'<2147483629:=by rw [ho];exact Int.emod_lt_of_pos _ (by omega)
   obtain ⟨two,ht⟩:∃ o,o=(one'* one'+69621* one'+(i:Int))%2147483563:=⟨_,rfl⟩
   refine ⟨_,rfl,[some (zs ns),some (.int k),some (zs sizes),some (.int c),some (.ref S.length),none,none,some (.int one'),some (.int i),some (.int two)],S++[.lst ((ds++[two / 11%s]).map .int)],.inl ?_,ds++[two / 11%s],one',_,_,by simp [q1],o0,by omega,Kr q2 (by rw [q1];exact hs) (Int.emod_nonneg _ (by omega)) (Int.emod_lt_of_pos _ ss.1),rfl,rfl⟩
   have hm:=lw (xs:=ds.map Vl.int) (y:=.int (two / 11%s)) (by rw [List.length_map];omega)
   unfold wU
   simp only [Oz.exec,aP,ev,evs,Res.out,Res.bind,List.getElem?_cons_zero,List.getElem?_cons_succ,List.set_cons_zero,List.set_cons_succ,ig,aZ,jo,fj,Fo (i:=one) (j:=48271) (by omega) (by omega),rF (i:=10007) (j:=(i:Int)+1) (by omega) (by omega),jy (j:=2147483629) (by omega),← ho,
    rF (i:=one') (j:=one') (by omega) (by omega),rF (i:=69621) (j:=one') (by omega) (by omega),jy (j:=2147483563) (by omega),← ht,Ug (i:=two) (j:=11) (by omega) (by omega),zs,jE CJ,jy ss.1,List.getElem?_concat_length,hm,iU,List.map_append,List.map_cons,List.map_nil])
 subst e2 e3
 refine ⟨ds,⟨by rw [hd,gU],hd2⟩,?_⟩
 rw [zW]
 refine vB (r:=0) (T:=[.lst (ds.map .int)]) rfl ?_ hS rfl (dU _)
 show exec (Mn (n+1)) pQ [some (zs ns),some (.int k),some (zs sizes),none,none,none,none,none,none,none] S=_
 have h1:decide (p≤c)=false:=decide_eq_false hb
 have es:pH (Mn (n+1)) (.yC (.b1 .len (.var 2))) [some (zs ns),some (.int k),some (zs sizes),some (.int c),some (.ref S.length),none,none,some (.int (c%2147483647)),none,none] (S++[.lst []])=.ok ([],jd 0 sizes.length) (S++[.lst []]):=mD (by simp only [ev,zs,Res.bind,ig,List.getElem?_cons_zero,List.getElem?_cons_succ,mJ,List.length_map]) (by omega)
 unfold pQ
 refine aq (bz (.int c) S (by simp only [ev,evs,Res.bind,List.getElem?_cons_zero,List.getElem?_cons_succ,pX,hc,Rv.v]) rfl) ?_
 refine aq (bz (.ref S.length) (S++[.lst []]) (by simp only [ev,d9,evs,Res.bind,List.length_nil,sizeLine,Nat.zero_le,if_true]) rfl) ?_
 refine aq (bD (S++[.lst []]) (by simp only [ev,Res.bind,List.getElem?_cons_zero,List.getElem?_cons_succ,List.set_cons_zero,List.set_cons_succ,hp,ig,cmpop,h1]) aM) ?_
 refine aq (bz (.int (c%2147483647)) (S++[.lst []]) (by simp only [ev,Res.bind,List.getElem?_cons_zero,List.getElem?_cons_succ,List.set_cons_zero,List.set_cons_succ,ig,jy (j:=2147483647) (by omega)]) rfl) ?_
 refine aq (jJ [] _ _ es e1) ?_
 exact bF (dI _ _ (by simp only [ev,List.getElem?_cons_zero,List.getElem?_cons_succ,Nat.add_zero]))
theorem tU (n:Nat) (ns:List Int) {k:Nat} {sizes:List Int} (hz:∀ s∈sizes,0<s∧s<1073741824) (hl:sizes.length≤1000) {S:Hs} (hS:NR S):∃ ds:List Int,YS sizes ds∧(Mn (n+2)).cal "_law_digits" [zs ns,.int k,zs sizes] S=.ok (.frs (.lst (ds.map .int))) S:=by
 obtain ⟨c,hc⟩:=agF n ns (k:=k) hS
 obtain ⟨p,hp⟩:∃ p:Int,binop .Pow (.int 10) (.int 18)=some (.int p):=⟨_,ajc (i:=10) (j:=18) (by decide) (by decide) (by decide)⟩
 by_cases hb:p≤c
 ·exact Ur n ns hz hl hS hc hp hb
 ·exact Nt n ns hz hl hS hc hp hb
end K04
namespace K04
open PySem L2 Oz
def al (z:Str):Prop:=∀ c∈z.cps.toList,c∈abc.cps.toList
theorem T5 (x y:Str):(x++y).cps.toList=x.cps.toList++y.cps.toList:=by
 show (x.cps++y.cps).toList=_
 simp
theorem len_tl (x:Str):x.length=x.cps.toList.length:=rfl
theorem len_app (x y:Str):(x++y).length=x.length+y.length:=by rw [len_tl,T5,List.length_append];rfl
theorem Lr {x y:Str} (h:al x) (k:al y):al (x++y):=fun c hc=>by
 rw [T5] at hc
 exact (List.mem_append.mp hc).elim (h c) (k c)
theorem Tt {c:Nat} (h:c∈abc.cps.toList):al ⟨#[c]⟩:=fun d hd=>by
 simp at hd
 rw [hd];exact h
theorem Jq:∀ gs:List Nat,TL.joinL [] (gs.map fun c=>[c])=gs
 | []=>rfl
 | [c]=>rfl
 | c::d::r=>by
  have:=Jq (d::r)
  simp only [List.map_cons,TL.joinL,List.nil_append] at this ⊢
  rw [this];rfl
theorem ado (gs:List Nat):(Txt.join (Str.ofString "") (gs.map fun c=>(⟨#[c]⟩:Str))).cps.toList=gs:=by
 rw [TL.join_eq]
 have:=TL.tl_join (Str.ofString "") (gs.map fun c=>(⟨#[c]⟩:Str))
 have e:TL.tl (Str.ofString "")=[]:=by decide
 rw [e,List.map_map] at this
 exact this.trans (Jq gs)
theorem CQ:abc.cps.toList.length=26:=by decide
theorem letter (m:Int):∃ c∈abc.cps.toList,abc.cps.toList[(m%26).toNat]? =some c:=by
 have h0:=Int.emod_nonneg m (show (26:Int)≠0 by omega)
 have h1:=Int.emod_lt_of_pos m (show (0:Int)<26 by omega)
 have:(m%26).toNat<abc.cps.toList.length:=by rw [CQ];omega
 exact ⟨_,List.getElem_mem this,List.getElem?_eq_getElem this⟩
theorem abK {S:Hs} {m:Int} {c:Nat} (h:abc.cps.toList[(m%26).toNat]? =some c):dM S (.str abc) (.int (m%26))=some (.str ⟨#[c]⟩):=by
 have h0:=Int.emod_nonneg m (show (26:Int)≠0 by omega)
 have:=ix_str (S:=S) (z:=abc) (i:=(m%26).toNat) (by rw [len_tl,CQ];omega) h
 rwa [Int.toNat_of_nonneg h0] at this
theorem aia {f:Vl→Option Vl}:∀ (xs:List Vl),(∀ x∈xs,∃ c∈abc.cps.toList,f x=some (.str ⟨#[c]⟩))→∃ gs:List Nat,xs.filterMap f=gs.map (fun c=>Vl.str ⟨#[c]⟩)∧gs.length=xs.length∧∀ c∈gs,c∈abc.cps.toList
 | [],_=>⟨[],rfl,rfl,fun c h=>by simp at h⟩
 | x::xs,h=>by
  obtain ⟨c,hc,e⟩:=h x (List.mem_cons_self ..)
  obtain ⟨gs,e1,e2,e3⟩:=aia xs fun y hy=>h y (List.mem_cons_of_mem _ hy)
  refine ⟨c::gs,by simp [e,e1],by simp [e2],fun d hd=> ?_⟩
  rcases List.mem_cons.mp hd with rfl | hd
  ·exact hc
  ·exact e3 d hd
theorem Yg (gs:List Nat):uR (gs.map fun c=>Vl.str ⟨#[c]⟩)=some (gs.map fun c=>(⟨#[c]⟩:Str)):=by
 induction gs with
 | nil=>rfl
 | cons c gs ih=>simp only [List.map_cons,uR,ih,Option.map_some]
theorem Lj:∀ zs:List Str,uR (zs.map Vl.str)=some zs
 | []=>rfl
 | z::zs=>by simp only [List.map_cons,uR,Lj zs,Option.map_some]
theorem abF (gs:List Nat):((gs.map fun c=>(⟨#[c]⟩:Str)).map (·.length)).sum=gs.length:=by
 induction gs with
 | nil=>rfl
 | cons c gs ih=>
  simp only [List.map_cons,List.sum_cons,ih,List.length_cons]
  have:(⟨#[c]⟩:Str).length=1:=rfl
  omega
theorem join_ones {S:Hs} {gs:List Nat} (h:gs.length≤1000):yd .join S (Str.ofString "") (.lst (gs.map fun c=>Vl.str ⟨#[c]⟩))=some (.str (Txt.join (Str.ofString "") (gs.map fun c=>(⟨#[c]⟩:Str)))):=by
 unfold yd
 simp only [cV,Option.bind_some,Yg]
 have e:(Str.ofString "").length=0:=by decide
 rw [if_pos (by rw [abF,e];omega)]
theorem aa4 {z:Str} {p:Nat}:(cutS z none (some (p:Int))).cps.toList=z.cps.toList.take p:=by
 unfold cutS
 rw [HT.sIx_none,HT.sIx_nat]
 simp only [List.drop_zero,Nat.sub_zero]
 rw [len_tl,Nat.min_comm,← List.take_take]
 simp only [List.take_of_length_le (show (z.cps.toList.take p).length≤z.cps.toList.length by rw [List.length_take];exact Nat.min_le_right _ _)]
theorem abt {z:Str} {p:Nat}:(cutS z (some (p:Int)) none).cps.toList=z.cps.toList.drop p:=by
 unfold cutS
 rw [HT.sIx_none,HT.sIx_nat,len_tl]
 simp only
 by_cases h:p≤z.cps.toList.length
 ·rw [Nat.min_eq_left h,List.take_of_length_le (by simp)]
 ·rw [Nat.min_eq_right (by omega),List.drop_length,List.drop_of_length_le (by omega)]
  simp
theorem agL {z:Str} {p:Nat} (h:z.length≤1000):HS (.str z) none (some (p:Int))=some (.str (cutS z none (some (p:Int)))):=if_pos (Nat.le_trans h (by decide))
theorem ahk {z:Str} {p:Nat} (h:z.length≤1000):HS (.str z) (some (p:Int)) none=some (.str (cutS z (some (p:Int)) none)):=if_pos (Nat.le_trans h (by decide))
theorem Gj {S:Hs} {v:Vl} {fs:List Str} {z:Str} (h:cV S v=some (fs.map .str)) (hd:aX S v=none) (hv:∀ y,v≠.str y):lU S (.str z) v=some (decide (z∈fs)):=by
 have hf:(fs.map Vl.str).all Vl.flat=true:=List.all_eq_true.mpr fun x hx=>by
  obtain ⟨y,_,rfl⟩:=List.mem_map.mp hx
  rfl
 have ha:((fs.map Vl.str).any fun y=>eqF y (.str z))=decide (z∈fs):=by
  rw [Bool.eq_iff_iff,List.any_eq_true,decide_eq_true_eq]
  constructor
  ·rintro ⟨x,hx,e⟩
   obtain ⟨y,hy,rfl⟩:=List.mem_map.mp hx
   simp only [eqF,beq_iff_eq] at e
   rw [← e];exact hy
  ·intro hz
   exact ⟨.str z,List.mem_map_of_mem hz,by simp only [eqF,beq_self_eq_true]⟩
 unfold lU
 cases v with
 | str y=>exact absurd rfl (hv y)
 | _=>
  simp only [hd,h]
  rw [hf]
  simp only [Vl.flat,Bool.and_self,if_true,ha]
theorem yD {S:Hs} {fs:List Str} {z:Str} {T:Hs}:lU (S++[.lst (fs.map .str)]++T) (.str z) (.ref S.length)=some (decide (z∈fs)):=by
 have e:(S++[Ob.lst (fs.map .str)]++T)[S.length]? =some (.lst (fs.map .str)):=by rw [List.append_assoc,List.getElem?_append_right (Nat.le_refl _)];simp
 exact Gj (by simp only [cV,e]) (by simp only [aX,e]) (fun y h=>by cases h)
theorem KC {α β:Type} {f:α→β}:∀ {xs:List α},(∀ a b,f a=f b→a=b)→xs.Nodup→(xs.map f).Nodup
 | [],_,_=>by simp
 | x::xs,h,k=>by
  rw [List.nodup_cons] at k
  rw [List.map_cons,List.nodup_cons]
  refine ⟨fun q=> ?_,KC h k.2⟩
  obtain ⟨y,hy,e⟩:=List.mem_map.mp q
  rw [h y x e] at hy
  exact k.1 hy
theorem aad {a b c d:Int} {ds:List Int} (h:YS [a,b,c,d] ds):∃ w x y z,ds=[w,x,y,z]∧(0≤w∧w<a)∧(0≤x∧x<b)∧(0≤y∧y<c)∧(0≤z∧z<d):=by
 have hl:=h.len
 match ds,hl with
 | [w,x,y,z],_=>exact ⟨w,x,y,z,rfl,h.at_ 0 _ _ rfl rfl,h.at_ 1 _ _ rfl rfl,h.at_ 2 _ _ rfl rfl,h.at_ 3 _ _ rfl rfl⟩
theorem ajE {a b:Int} {ds:List Int} (h:YS [a,b] ds):∃ w x,ds=[w,x]∧(0≤w∧w<a)∧(0≤x∧x<b):=by
 have hl:=h.len
 match ds,hl with
 | [w,x],_=>exact ⟨w,x,rfl,h.at_ 0 _ _ rfl rfl,h.at_ 1 _ _ rfl rfl⟩
end K04
namespace K04
open PySem L2 Oz
def lf (j one two:Int):Vl→Option Vl
 | .int i=>(abc.cps.toList[((one+i* two+3* j)%26).toNat]?).map fun c=>.str ⟨#[c]⟩
 | _=>none
theorem R7 (j one two:Int) {sz:Nat}:∀ x∈jd 0 sz,∃ i:Nat,i<sz∧x=.int i:=fun x hx=>by
 obtain ⟨i,hi⟩:=List.getElem?_of_mem hx
 exact ⟨i,qI hi⟩
theorem aaq (j one two:Int) (i:Nat):∃ c∈abc.cps.toList,abc.cps.toList[((one+(i:Int)* two+3* j)%26).toNat]? =some c∧lf j one two (.int i)=some (.str ⟨#[c]⟩):=by
 obtain ⟨c,hc,e⟩:=letter (one+(i:Int)* two+3* j)
 have h:lf j one two (.int i)=(abc.cps.toList[((one+(i:Int)* two+3* j)%26).toNat]?).map fun c=>.str ⟨#[c]⟩:=rfl
 exact ⟨c,hc,e,h.trans (congrArg (Option.map fun c=>Vl.str ⟨#[c]⟩) e)⟩
theorem aeJ (n:Nat) {a0 a1 a2 a3 a9 a10 a11 a12 a13 a14 a15 a16:Option Vl} (j one two:Int) (sz:Nat) (h1:0≤two) (h2:two<26) (S:Hs) (i c:Nat) (e:abc.cps.toList[((one+(i:Int)* two+3* j)%26).toNat]? =some c) :
  ev (Mn n) (.idx (.var 4) (.bin .Mod (.bin .Add (.bin .Add (.var 6) (.bin .Mult (.var 11) (.var 7))) (.bin .Mult (.cst (.int 3)) (.var 5))) (.cst (.int 26)))) [a0,a1,a2,a3,some (.str abc),some (.int j),some (.int one),some (.int two),some (.int sz),a9,a10,some (.int i),a12,a13,a14,a15,a16] S=.ok (.str ⟨#[c]⟩) S:=by
 exact dw (v_var rfl) (aW (aW (aW (v_var rfl) (aW (v_var rfl) (v_var rfl) (Fo (by omega) (by omega))) (fj _ _)) (aW aj (v_var rfl) (rF (by omega) (by omega))) (fj _ _)) aj (jy (by omega))) (abK e)
theorem Yv (n:Nat) {a0 a1 a2 a3 a9 a10 a11 a12 a13 a14 a15 a16:Option Vl} (j one two:Int) (sz:Nat) (h1:0≤two) (h2:two<26) (hs:sz≤5) (S:Hs):∃ gs:List Nat,gs.length=sz∧(∀ c∈gs,c∈abc.cps.toList)∧
  d9 (Mn n) KH [a0,a1,a2,a3,some (.str abc),some (.int j),some (.int one),some (.int two),some (.int sz),a9,a10,a11,a12,a13,a14,a15,a16] S=.ok (.lst (gs.map fun c=>Vl.str ⟨#[c]⟩)) S:=by
 have es:pH (Mn n) (.yC (.var 8)) [a0,a1,a2,a3,some (.str abc),some (.int j),some (.int one),some (.int two),some (.int sz),a9,a10,a11,a12,a13,a14,a15,a16] S=.ok ([],jd 0 sz) S:=mD (by simp only [ev,List.getElem?_cons_zero,List.getElem?_cons_succ]) (by omega)
 obtain ⟨gs,e1,e2,e3⟩:=aia (f:=lf j one two) (jd 0 sz) fun x hx=>by
  obtain ⟨i,_,rfl⟩:=R7 j one two x hx
  obtain ⟨c,hc,_,e⟩:=aaq j one two i
  exact ⟨c,hc,e⟩
 refine ⟨gs,by rw [e2,gU],e3,?_⟩
 rw [← e1]
 refine Lw (M:=Mn n) (own:=[11]) (t:=.nm 11) [] (jd 0 sz) (lf j one two) es (aU S) (by rw [gU];omega) (fun x hx y hy=> ?_) (fun x hx aQ ha=> ?_)
 ·obtain ⟨i,_,rfl⟩:=R7 j one two x hx
  obtain ⟨c,hc,_,e⟩:=aaq j one two i
  rw [e] at hy
  cases hy
  simp only [Vl.nr]
 ·obtain ⟨i,_,rfl⟩:=R7 j one two x hx
  obtain ⟨c,hc,e,e5⟩:=aaq j one two i
  exact ⟨_,_,rfl,aeJ n (a11:=none) j one two sz h1 h2 _ i c e,e5⟩
def tails:List Nat:=(Str.ofString "ijklmnopqrst").cps.toList
def tries (c:Nat):List Str:=tails.map fun t=>Str.ofString "z"++⟨#[c]⟩++⟨#[t]⟩
theorem PN (c:Nat):(tries c).Nodup:=KC (fun a b h=>by
 have:=congrArg (fun z:Str=>z.cps.toList) h
 simp only [T5] at this
 have:=List.append_cancel_left this
 simpa using this) (by decide)
theorem Yk (c:Nat):(tries c).length=12:=by
 unfold tries
 rw [List.length_map];decide
theorem RQ {c:Nat} (hc:c∈abc.cps.toList):∀ z∈tries c,yH z:=fun z hz=>by
 obtain ⟨t,ht,rfl⟩:=List.mem_map.mp hz
 have hl:(Str.ofString "z"++⟨#[c]⟩++⟨#[t]⟩:Str).length=3:=by
  rw [len_app,len_app]
  have e1:(Str.ofString "z").length=1:=by decide
  have e2:(⟨#[c]⟩:Str).length=1:=rfl
  have e3:(⟨#[t]⟩:Str).length=1:=rfl
  omega
 have hz:al (Str.ofString "z"):=by unfold al;decide
 have ht2:∀ t∈tails,t∈abc.cps.toList:=by decide
 exact ⟨by omega,by omega,Lr (Lr hz (Tt hc)) (Tt (ht2 t ht))⟩
theorem adM (n:Nat) {a0 a1 a2 a3 a6 a7 a8 a9 a10 a11 a12 a13 a14 a15 a16:Option Vl} {j:Nat} {c:Nat} (hc:abc.cps.toList[j]? =some c) (S:Hs) :
  d9 (Mn n) zJ [a0,a1,a2,a3,some (.str abc),some (.int j),a6,a7,a8,a9,a10,a11,a12,a13,a14,a15,a16] S=.ok (.lst ((tries c).map .str)) S:=by
 have hx0:∀ S:Hs,dM S (.str abc) (.int j)=some (.str ⟨#[c]⟩):=fun S=>ix_str (by rw [len_tl,CQ];omega) hc
 refine (Lw (M:=Mn n) (own:=[15]) (t:=.nm 15) [] (iI (Str.ofString "ijklmnopqrst")) (fun x=>match x with | .str t=>some (.str (Str.ofString "z"++⟨#[c]⟩++t)) | _=>none) (zB (by simp only [ev])) (aU S) (by rw [wX];decide) (fun x hx y hy=>by
   obtain ⟨d,hd,rfl⟩:=jX hx
   cases hy
   simp only [Vl.nr]) (fun x hx aQ ha=>by
   obtain ⟨d,hd,rfl⟩:=jX hx
   have z1:(Str.ofString "z").length=1:=by decide
   have z2:(⟨#[c]⟩:Str).length=1:=rfl
   have z3:(⟨#[d]⟩:Str).length=1:=rfl
   have q1:(Str.ofString "z").length+(⟨#[c]⟩:Str).length≤sizeLine:=jf (by omega)
   have q2:(Str.ofString "z"++⟨#[c]⟩:Str).length+(⟨#[d]⟩:Str).length≤sizeLine:=jf (by rw [len_app];omega)
   exact ⟨_,_,rfl,aW (aW aj (dw (v_var rfl) (v_var rfl) (hx0 _)) (eX q1)) (v_var rfl) (eX q2),rfl⟩)).trans ?_
 congr 2
theorem ag7 (n:Nat) {a0 a1 a2 a4 a5 a6 a7 a8 a9 a10 a11 a12 a13 a15 a16:Option Vl} {ts fs:List Str} (hl:ts.length≤1000) (S:Hs) :
  d9 (Mn n) Ai [a0,a1,a2,some (.ref S.length),a4,a5,a6,a7,a8,a9,a10,a11,a12,a13,some (.lst (ts.map .str)),a15,a16] (S++[.lst (fs.map .str)])=.ok (.lst ((ts.filter fun z=>decide (z∉fs)).map .str)) (S++[.lst (fs.map .str)]):=by
 refine (aaS (M:=Mn n) (own:=[16]) (t:=.nm 16) [] (ts.map .str) (fun x=>match x with | .str t=>if t∈fs then none else some (.str t) | _=>none) (iG (v:=.lst (ts.map .str)) (S1:=S++[.lst (fs.map .str)]) (by simp only [ev,List.getElem?_cons_succ,List.getElem?_cons_zero]) rfl) (aU _) (by rw [List.length_map];omega) (fun x hx y hy=>by
   obtain ⟨d,hd,rfl⟩:=List.mem_map.mp hx
   simp only at hy
   split at hy
   ·cases hy
   ·cases hy;simp only [Vl.nr]) (fun x hx aQ ha=>by
   obtain ⟨d,hd,rfl⟩:=List.mem_map.mp hx
   refine ⟨_,rfl,?_⟩
   by_cases hm:d∈fs
   ·exact .inl ⟨aK (d:=false) (v_var rfl) (v_var rfl) (by simp only [cmpop,yD,Option.map_some,decide_eq_true hm,Bool.not_true]),by simp only [if_pos hm]⟩
   ·exact .inr ⟨aK (d:=true) (v_var rfl) (v_var rfl) (by simp only [cmpop,yD,Option.map_some,decide_eq_false hm,Bool.not_false]),.str d,v_var rfl,by simp only [if_neg hm]⟩)).trans ?_
 congr 2
 clear hl
 induction ts with
 | nil=>rfl
 | cons t ts ih=>
  by_cases hm:t∈fs
  ·rw [List.map_cons,List.filterMap_cons,List.filter_cons]
   simp only [if_pos hm,ih]
   simp [hm]
  ·rw [List.map_cons,List.filterMap_cons,List.filter_cons]
   simp only [if_neg hm,ih]
   simp [hm]
end K04
namespace K04
def gM (f:List Int) (t:Int):List Int:=if 0<t∧t∉f then f++[t] else f
def push (f:List Int) (ts:List Int):List Int:=ts.foldl gM f
def vM (nx:Int→List Int):Nat→Nat→List Int→List Int
 | 0,_,f=>f
 | n+1,k,f=>match f[k]? with
  | some x=>vM nx n (k+1) (push f (nx x))
  | none=>f
def dJ (n:Nat):List Int:=(List.range n).map fun (i:Nat)=>(i:Int)+1
theorem zr (f:List Int):push f []=f:=rfl
theorem pC (f:List Int) (t:Int) (ts:List Int):push f (t::ts)=push (gM f t) ts:=rfl
theorem JV {f:List Int} {t x:Int}:x∈gM f t↔x∈f∨(x=t∧0<x):=by
 unfold gM
 split
 ·rename_i h
  rw [List.mem_append,List.mem_singleton]
  constructor
  ·rintro (h1 | h1)
   ·exact .inl h1
   ·subst h1;exact .inr ⟨rfl,h.1⟩
  ·rintro (h1 | ⟨h1,_⟩)
   ·exact .inl h1
   ·exact .inr h1
 ·rename_i h
  constructor
  ·exact .inl
  ·rintro (h1 | ⟨h1,h2⟩)
   ·exact h1
   ·subst h1
    by_cases c:x∈f
    ·exact c
    ·exact absurd ⟨h2,c⟩ h
theorem m9 {x:Int}:∀ {ts f:List Int},x∈push f ts↔x∈f∨(x∈ts∧0<x)
 | [],f=>by simp [zr]
 | t::ts,f=>by
  rw [pC,m9,JV,List.mem_cons]
  constructor
  ·rintro ((h | ⟨h,h2⟩) | ⟨h,h2⟩)
   ·exact .inl h
   ·exact .inr ⟨.inl h,h2⟩
   ·exact .inr ⟨.inr h,h2⟩
  ·rintro (h | ⟨h | h,h2⟩)
   ·exact .inl (.inl h)
   ·exact .inl (.inr ⟨h,h2⟩)
   ·exact .inr ⟨h,h2⟩
theorem Qq {f:List Int} {t:Int} (h:f.Nodup):(gM f t).Nodup:=by
 unfold gM
 split
 ·rename_i c
  rw [List.nodup_append]
  exact ⟨h,by simp,fun x hx y hy=>by
   rw [List.mem_singleton.mp hy]
   exact fun e=>c.2 (e ▸ hx)⟩
 ·exact h
theorem wR:∀ {ts f:List Int},f.Nodup→(push f ts).Nodup
 | [],f,h=>h
 | t::ts,f,h=>by
  rw [pC]
  exact wR (Qq h)
theorem Yy {f:List Int} {t:Int}:f<+:gM f t:=by
 unfold gM
 split
 ·exact List.prefix_append _ _
 ·exact List.prefix_refl _
theorem Fq:∀ {ts f:List Int},f<+:push f ts
 | [],f=>List.prefix_refl _
 | t::ts,f=>Yy.trans Fq
section
variable {nx:Int→List Int}
theorem kE:∀ {m k:Nat} {f:List Int},f<+:vM nx m k f
 | 0,k,f=>List.prefix_refl _
 | m+1,k,f=>by
  unfold vM
  split
  ·exact Fq.trans kE
  ·exact List.prefix_refl _
theorem JQ:∀ {m k:Nat} {f:List Int},f.Nodup→(vM nx m k f).Nodup
 | 0,k,f,h=>h
 | m+1,k,f,h=>by
  unfold vM
  split
  ·exact JQ (wR h)
  ·exact h
theorem VF {P:Int→Prop} (hc:∀ x,P x→∀ t∈nx x,0<t→P t):∀ {m k:Nat} {f:List Int},(∀ x∈f,P x)→∀ x∈vM nx m k f,P x
 | 0,k,f,h,x,hx=>h x hx
 | m+1,k,f,h,x,hx=>by
  unfold vM at hx
  split at hx
  ·rename_i y e
   refine VF hc (fun z hz=> ?_) x hx
   rcases m9.mp hz with c | ⟨c,d⟩
   ·exact h z c
   ·exact hc y (h y (List.mem_of_getElem? e)) z c d
  ·exact h x hx
theorem ad1 {α:Type} {xs ys:List α} {i:Nat} {x:α} (h:xs<+:ys) (e:xs[i]? =some x):ys[i]? =some x:=by
 obtain ⟨t,rfl⟩:=h
 rw [List.getElem?_append_left (List.getElem?_eq_some_iff.mp e).1];exact e
theorem Dr:∀ {m k:Nat} {f:List Int},(vM nx m k f).length≤k+m→∀ (i:Nat) (x:Int),k≤i→(vM nx m k f)[i]? =some x→∀ t∈nx x,0<t→t∈vM nx m k f
 | 0,k,f,hl,i,x,hi,e,t,ht,h0=>by
  have:=(List.getElem?_eq_some_iff.mp e).1
  unfold vM at hl this
  omega
 | m+1,k,f,hl,i,x,hi,e,t,ht,h0=>by
  unfold vM at hl e ⊢
  split at e
  ·rename_i y ey
   rw [ey] at hl
   simp only at hl ⊢
   by_cases c:i=k
   ·subst c
    have e2:=ad1 (Fq.trans kE) ey (ys:=vM nx m (i+1) (push f (nx y)))
    rw [e2] at e
    cases e
    exact (kE.subset) (m9.mpr (.inr ⟨ht,h0⟩))
   ·exact Dr (by omega) i x (by omega) e t ht h0
  ·rename_i en
   have:=(List.getElem?_eq_some_iff.mp e).1
   have:=List.getElem?_eq_none_iff.mp en
   omega
theorem Jw:∀ {m k d:Nat} {f:List Int},(vM nx (m+d) k f).length≤k+m→vM nx m k f=vM nx (m+d) k f
 | 0,k,d,f,h=>by
  have p:f<+:vM nx (0+d) k f:=kE
  have hl:=p.length_le
  have en:f[k]? =none:=List.getElem?_eq_none (by omega)
  cases d with
  | zero=>rfl
  | succ d=>
   show f=vM nx (0+(d+1)) k f
   rw [show 0+(d+1)=(0+d)+1 by omega]
   unfold vM
   rw [en]
 | m+1,k,d,f,h=>by
  rw [show m+1+d=(m+d)+1 by omega] at h ⊢
  unfold vM at h ⊢
  split at h
  ·rename_i y ey
   exact Jw (by omega)
  ·rfl
structure Ren (P:Int→Prop) (g:Int→Int):Prop where
 inj:∀ a b,P a→P b→g a=g b→a=b
 pos:∀ a,P a→0<g a
 neg:∀ a,a≤0→g a≤0
theorem Ww {P:Int→Prop} {g:Int→Int} (r:Ren P g) {f:List Int} (hf:∀ x∈f,P x) {t:Int} (ht:P t):g t∈f.map g↔t∈f:=by
 constructor
 ·intro h
  obtain ⟨y,hy,e⟩:=List.mem_map.mp h
  rw [← r.inj y t (hf y hy) ht e];exact hy
 ·exact fun h=>List.mem_map.mpr ⟨t,h,rfl⟩
theorem Xy {P:Int→Prop} {g:Int→Int} (r:Ren P g) {f:List Int} (hf:∀ x∈f,P x) {t:Int} (ht:0<t→P t):gM (f.map g) (g t)=(gM f t).map g:=by
 unfold gM
 by_cases c:0<t
 ·have pt:=ht c
  have c2:=r.pos t pt
  by_cases d:t∈f
  ·rw [if_neg (fun z=>z.2 ((Ww r hf pt).mpr d)),if_neg (fun z=>z.2 d)]
  ·rw [if_pos ⟨c2,fun z=>d ((Ww r hf pt).mp z)⟩,if_pos ⟨c,d⟩,List.map_append,List.map_cons,List.map_nil]
 ·have c2:=r.neg t (by omega)
  rw [if_neg (by omega),if_neg (by omega)]
theorem yS {P:Int→Prop} {g:Int→Int} (r:Ren P g):∀ {ts f:List Int},(∀ x∈f,P x)→(∀ t∈ts,0<t→P t)→push (f.map g) (ts.map g)=(push f ts).map g
 | [],f,_,_=>rfl
 | t::ts,f,hf,ht=>by
  rw [List.map_cons,pC,pC,Xy r hf (ht t List.mem_cons_self)]
  refine yS r (fun x hx=> ?_) fun y hy=>ht y (List.mem_cons_of_mem _ hy)
  rcases JV.mp hx with c | ⟨c,d⟩
  ·exact hf x c
  ·subst c;exact ht x List.mem_cons_self d
theorem Ou {P:Int→Prop} {g:Int→Int} {nx':Int→List Int} (r:Ren P g) (hc:∀ x,P x→∀ t∈nx x,0<t→P t) (hn:∀ x,P x→nx' (g x)=(nx x).map g):∀ {m k:Nat} {f:List Int},(∀ x∈f,P x)→vM nx' m k (f.map g)=(vM nx m k f).map g
 | 0,k,f,_=>rfl
 | m+1,k,f,hf=>by
  unfold vM
  rw [List.getElem?_map]
  cases e:f[k]? with
  | none=>rfl
  | some x=>
   have px:=hf x (List.mem_of_getElem? e)
   simp only [Option.map_some]
   rw [hn x px,yS r hf (hc x px)]
   refine Ou r hc hn fun y hy=> ?_
   rcases m9.mp hy with c | ⟨c,d⟩
   ·exact hf y c
   ·exact hc x px y c d
end
theorem oG (n:Nat):(dJ n).length=n:=by simp [dJ]
theorem Dg {n i:Nat} (h:i<n):(dJ n)[i]? =some ((i:Int)+1):=by
 unfold dJ
 rw [List.getElem?_map,List.getElem?_range h];rfl
theorem xQ {n:Nat} {x:Int}:x∈dJ n↔1≤x∧x≤n:=by
 unfold dJ
 rw [List.mem_map]
 constructor
 ·rintro ⟨i,hi,rfl⟩
  have:=List.mem_range.mp hi
  omega
 ·rintro ⟨h1,h2⟩
  exact ⟨(x - 1).toNat,List.mem_range.mpr (by omega),by omega⟩
theorem Uu (n:Nat):(dJ n).Nodup:=by
 unfold dJ
 refine List.Pairwise.map _ (fun a b h e=>h (by omega)) List.nodup_range
theorem z8 {α:Type} [DecidableEq α]:∀ {xs ys:List α},xs.Nodup→(∀ x∈xs,x∈ys)→xs.length≤ys.length
 | [],ys,_,_=>Nat.zero_le _
 | x::xs,ys,h,k=>by
  obtain ⟨h1,h2⟩:=List.nodup_cons.mp h
  have hx:=k x List.mem_cons_self
  have:=z8 (ys:=ys.erase x) h2 fun y hy=>(List.mem_erase_of_ne (fun e:y=x=>h1 (e ▸ hy))).mpr (k y (List.mem_cons_of_mem _ hy))
  rw [List.length_erase_of_mem hx] at this
  have:0<ys.length:=List.length_pos_of_mem hx
  simp only [List.length_cons];omega
theorem ad3 {n:Nat} {f:List Int} (h:f.Nodup) (k:∀ x∈f,1≤x∧x≤n):f.length≤n:=by
 have:=z8 h fun x hx=>xQ.mpr (k x hx)
 rwa [oG] at this
def anew (o:List Int) (t:Int):Int:=if 0<t then (o.idxOf t:Int)+1 else t
theorem aax {o:List Int} (h:∀ x∈o,0<x):Ren (fun x=>x∈o) (anew o) where
 inj:=fun a b ha hb e=>by
  unfold anew at e
  rw [if_pos (h a ha),if_pos (h b hb)] at e
  have la:=List.idxOf_lt_length_of_mem ha
  have lb:=List.idxOf_lt_length_of_mem hb
  have e2:o.idxOf a=o.idxOf b:=by omega
  have g1:=List.getElem_idxOf la
  have g2:=List.getElem_idxOf lb
  simp only [e2] at g1
  exact g1.symm.trans g2
 pos:=fun a ha=>by
  unfold anew
  rw [if_pos (h a ha)];omega
 neg:=fun a ha=>by
  unfold anew
  rw [if_neg (by omega)];exact ha
theorem Oc {o:List Int} (nd:o.Nodup) {i:Nat} {x:Int} (e:o[i]? =some x):o.idxOf x=i:=by
 have hx:=List.mem_of_getElem? e
 have l:=List.idxOf_lt_length_of_mem hx
 have g:=List.getElem_idxOf l
 have g2:o[o.idxOf x]? =some x:=by rw [List.getElem?_eq_getElem l,g]
 exact (List.getElem?_inj l nd).mp (g2.trans e.symm)
theorem aa7 {o:List Int} (nd:o.Nodup) (h:∀ x∈o,0<x):o.map (anew o)=dJ o.length:=by
 apply List.ext_getElem?
 intro i
 rw [List.getElem?_map]
 by_cases c:i<o.length
 ·rw [Dg c,List.getElem?_eq_getElem c]
  simp only [Option.map_some]
  congr 1
  unfold anew
  rw [if_pos (h _ (List.getElem_mem c)),Oc nd (List.getElem?_eq_getElem c)]
 ·rw [List.getElem?_eq_none (by omega),List.getElem?_eq_none (by rw [oG];omega)];rfl
end K04
namespace K04
open PySem L2 Oz
theorem ack {x:Int} (h:0≤x):∃ n:Nat,x=n:=⟨x.toNat,by omega⟩
theorem acV {gs:List Nat} {c p:Nat} {R:Str} (hR:R.cps.toList=gs) (hg:∀ d∈gs,d∈abc.cps.toList) (hc:c∈abc.cps.toList) (h5:gs.length≤5):yH (cutS R none (some (p:Int))++⟨#[c]⟩++cutS R (some (p:Int)) none):=by
 have l1:(⟨#[c]⟩:Str).length=1:=rfl
 have l2:(cutS R none (some (p:Int))).length+(cutS R (some (p:Int)) none).length=gs.length:=by
  rw [len_tl,len_tl,aa4,abt,hR,List.length_take,List.length_drop];omega
 refine ⟨by rw [len_app,len_app];omega,by rw [len_app,len_app];omega,Lr (Lr (fun d hd=> ?_) (Tt hc)) (fun d hd=> ?_)⟩
 ·rw [aa4,hR] at hd;exact hg d (List.mem_of_mem_take hd)
 ·rw [abt,hR] at hd;exact hg d (List.mem_of_mem_drop hd)
def sh (s:Vl) (k many:Int) (r:Nat) (a5 a6 a7 a8 a9 a10 a12 a13 a14:Option Vl):Sg:=[some s,some (.int k),some (.int many),some (.ref r),some (.str abc),a5,a6,a7,a8,a9,a10,none,a12,a13,a14,none,none]
theorem Ub (n:Nat) (ns:List Int) {k i:Nat} {many:Int} {fs:List Str} {S:Hs} (hS:NR S) (hl:fs.length=i) (h5:i≤5) (hn:fs.Nodup) (a6 a7 a8 a9 a10 a12 a13 a14:Option Vl) :
  ∃ z b6 b7 b8 b9 b10 Ca BJ BZ,yH z∧z∉fs∧exec (Mn (n+2)) pW (sh (zs ns) k many S.length (some (.int i)) a6 a7 a8 a9 a10 a12 a13 a14) (S++[.lst (fs.map .str)])=.nx (sh (zs ns) k many S.length (some (.int i)) b6 b7 b8 b9 b10 Ca BJ BZ) (S++[.lst ((fs++[z]).map .str)]):=by
 have hT:NR (S++[.lst (fs.map .str)]):=hS.one (lE fs)
 obtain ⟨ds,hd,hc⟩:=tU n ns (k:=k+i%2) (sizes:=[26,26,6,5]) (by decide) (by decide) hT
 obtain ⟨one,two,size,place,rfl,⟨o0,o1⟩,⟨t0,t1⟩,⟨s0,s1⟩,⟨p0,p1⟩⟩:=aad hd
 obtain ⟨sz,rfl⟩:=ack s0
 obtain ⟨pl,rfl⟩:=ack p0
 have hk:((k+i%2:Nat):Int)=(k:Int)+(i:Int)%2:=by omega
 rw [hk] at hc
 obtain ⟨gs,g1,g2,g3⟩:=Yv (n+2) (a0:=some (zs ns)) (a1:=some (.int k)) (a2:=some (.int many)) (a3:=some (.ref S.length)) (a9:=some (.int pl)) (a10:=a10) (a11:=none) (a12:=a12) (a13:=a13) (a14:=a14) (a15:=none) (a16:=none) i one two sz t0 t1 (by omega) (S++[.lst (fs.map .str)])
 obtain ⟨c,c1,c2⟩:=letter (one+7* i+11)
 obtain ⟨R,hJ,hR⟩:∃ R:Str,yd .join (S++[.lst (fs.map .str)]) (Str.ofString "") (.lst (gs.map fun c=>Vl.str ⟨#[c]⟩))=some (.str R)∧R.cps.toList=gs:=⟨_,join_ones (by omega),ado gs⟩
 have hW:=acV (p:=pl) hR g2 c1 (by omega)
 have hRl:R.length≤1000:=by rw [len_tl,hR];omega
 have tot:=hW.hi
 have q1:(cutS R none (some (pl:Int))).length+(⟨#[c]⟩:Str).length≤sizeLine:=jf (by
  rw [len_app,len_app] at tot;omega)
 have q2:(cutS R none (some (pl:Int))++⟨#[c]⟩:Str).length+(cutS R (some (pl:Int)) none).length≤sizeLine:=jf (by
  rw [len_app] at tot;omega)
 obtain ⟨W,hWe⟩:∃ W,W=cutS R none (some (pl:Int))++⟨#[c]⟩++cutS R (some (pl:Int)) none:=⟨_,rfl⟩
 rw [← hWe] at hW
 have hap:∀ z:Str,Kv .append (fs.map Vl.str) [.str z]=some (.non,(fs++[z]).map Vl.str):=fun z=>by
  rw [lw (by rw [List.length_map];omega),List.map_append];rfl
 have ae6:(S++[Ob.lst (fs.map .str)])[S.length]? =some (.lst (fs.map .str)):=List.getElem?_concat_length
 -- up to the test
 have head:∀ r:Out,exec (Mn (n+2)) (.cons (.ite (.cmp .In (.var 13) (.var 3)) (.cons (.asg (.nm 14) (.inl zJ)) (.cons (.asg (.nm 13) (.idx (.inl Ai) (.cst (.int 0)))) .nil)) .nil) (.cons (.ex (.mut .append (.var 3) (.cons (.var 13) .nil))) .nil)) (sh (zs ns) k many S.length (some (.int i)) (some (.int one)) (some (.int two)) (some (.int sz)) (some (.int pl)) (some (.str R)) (some (.str ⟨#[c]⟩)) (some (.str W)) a14) (S++[.lst (fs.map .str)])=r→
   exec (Mn (n+2)) pW (sh (zs ns) k many S.length (some (.int i)) a6 a7 a8 a9 a10 a12 a13 a14) (S++[.lst (fs.map .str)])=r:=fun r hr=>by
  unfold pW
  refine aq (bz (.lst [.int one,.int two,.int sz,.int pl]) _ (bJ (aa (v_var rfl) (aa (aW (v_var rfl) (aW (v_var rfl) aj (jy (by omega))) (fj _ _)) (aa (du (lK (aa aj (aa aj (aa aj (aa aj az)))) (by decide))) az))) hc) rfl) ?_
  refine aq (bz _ _ (xG aj (du g3) hJ) rfl) ?_
  refine aq (bz _ _ (dw (v_var rfl) (aW (aW (aW (v_var rfl) (aW aj (v_var rfl) (rF (by omega) (by omega))) (fj _ _)) aj (fj _ _)) aj (jy (by omega))) (abK c2)) rfl) ?_
  refine aq (bz (.str W) _ (by rw [hWe];exact aW (aW (Br (v_var rfl) qC (qF (v_var rfl)) (agL hRl)) (v_var rfl) (eX q1)) (Br (v_var rfl) (qF (v_var rfl)) qC (ahk hRl)) (eX q2)) rfl) ?_
  exact hr
 by_cases hm:W∈fs
 ·have hi:i<abc.cps.toList.length:=by rw [CQ];omega
  obtain ⟨d,hd1⟩:∃ d,abc.cps.toList[i]? =some d:=⟨_,List.getElem?_eq_getElem hi⟩
  have dm:d∈abc.cps.toList:=List.mem_of_getElem? hd1
  have tl:=Yk d
  cases hf:(tries d).filter (fun z=>decide (z∉fs)) with
  | nil=>
   have:=z8 (PN d) (ys:=fs) fun x hx=>by
    have:=List.filter_eq_nil_iff.mp hf x hx
    simpa using this
   omega
  | cons z rest=>
   have zm:z∈(tries d).filter (fun z=>decide (z∉fs)):=by rw [hf];exact List.mem_cons_self ..
   rw [List.mem_filter,decide_eq_true_eq] at zm
   have et:=adM (n+2) (a0:=some (zs ns)) (a1:=some (.int k)) (a2:=some (.int many)) (a3:=some (.ref S.length)) (a6:=some (.int one)) (a7:=some (.int two)) (a8:=some (.int sz)) (a9:=some (.int pl)) (a10:=some (.str R)) (a11:=none) (a12:=some (.str ⟨#[c]⟩)) (a13:=some (.str W)) (a14:=a14) (a15:=none) (a16:=none) hd1 (S++[.lst (fs.map .str)])
   have ef:=ag7 (n+2) (a0:=some (zs ns)) (a1:=some (.int k)) (a2:=some (.int many)) (a4:=some (.str abc)) (a5:=some (.int i)) (a6:=some (.int one)) (a7:=some (.int two)) (a8:=some (.int sz)) (a9:=some (.int pl)) (a10:=some (.str R)) (a11:=none) (a12:=some (.str ⟨#[c]⟩)) (a13:=some (.str W)) (a15:=none) (a16:=none) (ts:=tries d) (fs:=fs) (by omega) S
   rw [hf] at ef
   refine ⟨z,some (.int one),some (.int two),some (.int sz),some (.int pl),some (.str R),some (.str ⟨#[c]⟩),some (.str z),some (.lst ((tries d).map .str)),RQ dm z zm.1,zm.2,head _ ?_⟩
   refine aq (cQ _ (aK (d:=true) (v_var rfl) (v_var rfl) ?_) (aq (bz _ _ (du et) rfl) (aq (bz (.str z) _ (dw (du ef) aj (jE (i:=0) rfl)) rfl) aM))) ?_
   ·have:=yD (S:=S) (fs:=fs) (z:=W) (T:=[])
    rw [List.append_nil,decide_eq_true hm] at this
    exact this
   ·refine aq (NT _ _ (BR (v_var rfl) (jo _ _) (aa (v_var rfl) az) ae6 (hap z))) ?_
    rw [iU]
    exact aM
 ·refine ⟨W,some (.int one),some (.int two),some (.int sz),some (.int pl),some (.str R),some (.str ⟨#[c]⟩),some (.str W),a14,hW,hm,head _ ?_⟩
  refine aq (bD _ (aK (d:=false) (v_var rfl) (v_var rfl) ?_) aM) ?_
  ·have:=yD (S:=S) (fs:=fs) (z:=W) (T:=[])
   rw [List.append_nil,decide_eq_false hm] at this
   exact this
  ·refine aq (NT _ _ (BR (v_var rfl) (jo _ _) (aa (v_var rfl) az) ae6 (hap W))) ?_
   rw [iU]
   exact aM
structure Names (fs:List Str):Prop where
 w:∀ z∈fs,yH z
 nd:fs.Nodup
theorem ab8 (n:Nat) (ns:List Int) {k many:Nat} (h6:many≤6) {S:Hs} (hS:NR S):∃ fs:List Str,Names fs∧fs.length=many∧(Mn (n+3)).cal "_law_names" [zs ns,.int k,.int many] S=.ok (.frs (.lst (fs.map .str))) S:=by
 obtain ⟨η',S',e1,fs,a5,a6,a7,a8,a9,a10,a12,a13,a14,f1,f2,e2,e3⟩:=gW (body:=fun η1 S2=>Oz.exec (Mn (n+2)) pW η1 S2) (t:=.nm 5) (lk:=[]) (xs:=jd 0 many) (η:=sh (zs ns) k many S.length none none none none none none none none none) (S:=S++[.lst []])
  (fun i η T=>∃ fs a5 a6 a7 a8 a9 a10 a12 a13 a14,fs.length=i∧Names fs∧T=S++[.lst (fs.map .str)]∧η=sh (zs ns) k many S.length a5 a6 a7 a8 a9 a10 a12 a13 a14)
  ⟨[],_,_,_,_,_,_,_,_,_,rfl,⟨fun z h=>by simp at h,List.nodup_nil⟩,rfl,rfl⟩ (fun _ _ _ _=>aU _)
  (fun i x η T ex ⟨fs,a5,a6,a7,a8,a9,a10,a12,a13,a14,q1,q2,q3,q4⟩=>by
   subst q3 q4
   obtain ⟨il,rfl⟩:=qI ex
   obtain ⟨z,b6,b7,b8,b9,b10,Ca,BJ,BZ,z1,z2,z3⟩:=Ub n ns (k:=k) (i:=i) (many:=many) hS q1 (by omega) q2.nd a6 a7 a8 a9 a10 a12 a13 a14
   refine ⟨_,rfl,_,_,.inl z3,fs++[z],_,_,_,_,_,_,_,_,_,by simp [q1],⟨fun y hy=> ?_,?_⟩,rfl,rfl⟩
   ·rcases List.mem_append.mp hy with hy | hy
    ·exact q2.w y hy
    ·simp at hy;rw [hy];exact z1
   ·rw [List.nodup_append]
    refine ⟨q2.nd,by simp,fun y hy w hw=> ?_⟩
    simp at hw
    rw [hw]
    intro e;subst e;exact z2 hy)
 subst e2 e3
 refine ⟨fs,f2,by rw [f1,gU],?_⟩
 rw [Pa]
 refine vB (r:=0) (T:=[.lst (fs.map .str)]) rfl ?_ hS rfl (lE _)
 show exec (Mn (n+2)) Eu [some (zs ns),some (.int k),some (.int many),none,none,none,none,none,none,none,none,none,none,none,none,none,none] S=_
 unfold Eu
 refine aq (bz (.tup [.ref S.length,.str abc]) (S++[.lst []]) (jg (aa (nY (lK az (by decide))) (aa aj az)) (show 2≤1000000 by decide)) rfl) ?_
 refine aq (jJ [] (jd 0 many) _ (mD (v_var rfl) (by omega)) e1) ?_
 exact bF (dI _ _ (v_var rfl))
end K04
namespace K04
open PySem L2 Oz
section
variable {S:Hs} {a b a' b':Ob}
theorem g0:(S++[a,b])[S.length]? =some a:=by simp
theorem g1:(S++[a,b])[S.length+1]? =some b:=by simp
theorem s0:(S++[a,b]).set S.length a'=S++[a',b]:=by simp
theorem s1:(S++[a,b]).set (S.length+1) b'=S++[a,b']:=by simp
theorem nr2 (h:NR S) (ha:a.nr=true) (hb:b.nr=true):NR (S++[a,b]):=by
 have:=(h.one ha).one hb
 simpa using this
end
structure Sq (S0:Hs) (v:Vl) (xs:List Vl):Prop where
 seq:∀ {S:Hs},S0<+:S→cV S v=some xs
 walk:∃ lk,∀ {S:Hs},S0<+:S→lZ S v=some (lk,xs)∧cP lk S
 dct:∀ {S:Hs},S0<+:S→aX S v=none
 len:∀ {S:Hs},S0<+:S→gY .len S v=some (.int xs.length)
 ix:∀ {S:Hs},S0<+:S→∀ (i:Nat) x,xs[i]? =some x→dM S v (.int i)=some x
theorem aaQ (S:Hs) (xs:List Vl):Sq S (.tup xs) xs:=⟨fun _=>rfl,⟨[],fun _=>⟨rfl,aU _⟩⟩,fun _=>rfl,fun _=>rfl,fun _ _ _ h=>ix_tup h⟩
theorem vo {S0 S:Hs} {r:Nat} {o:Ob} (p:S0<+:S) (h:S0[r]? =some o):S[r]? =some o:=by
 obtain ⟨T,rfl⟩:=p
 rw [List.getElem?_append_left (List.getElem?_eq_some_iff.mp h).1];exact h
theorem aa2 {S:Hs} {r:Nat} {xs:List Vl} (h:S[r]? =some (.lst xs)):Sq S (.ref r) xs:=
 ⟨fun p=>by simp only [cV,vo p h],⟨[(r,Ob.lst xs)],fun p=>⟨by simp only [lZ,vo p h],fun q hq=>by rw [List.mem_singleton.mp hq];exact vo p h⟩⟩,fun p=>by simp only [aX,vo p h],
  fun p=>by simp only [gY,aX,cV,vo p h,Option.map_some],fun p i x hx=>aiN (vo p h) hx⟩
theorem Sq.up {S T:Hs} {v:Vl} {xs:List Vl} (h:Sq S v xs):Sq (S++T) v xs:=
 have q:∀ {U:Hs},S++T<+:U→S<+:U:=fun p=>(List.prefix_append _ _).trans p
 ⟨fun p=>h.seq (q p),let ⟨lk,w⟩:=h.walk;⟨lk,fun p=>w (q p)⟩,fun p=>h.dct (q p),fun p=>h.len (q p),fun p=>h.ix (q p)⟩
theorem p1 {S T:Hs}:S<+:S++T:=List.prefix_append _ _
theorem p2 {S T U:Hs}:S<+:S++T++U:=p1.trans p1
theorem p3 {S T U V:Hs}:S<+:S++T++U++V:=p2.trans p1
def bK (nm:dh):dh:=sortBy (·.1) nm
theorem Le:∀ nm:dh,UG (valN nm)=some (nm.map fun p=>(p.1,Vl.int p.2))
 | []=>rfl
 | p::nm=>by
  have ih:=Le nm
  unfold valN at ih ⊢
  simp only [List.map_cons,UG,ih,Option.map_some]
theorem K7 {S0 S:Hs} {v:Vl} {nm:dh} (h:Sq S0 v (valN nm)) (p:S0<+:S) (nd:(nm.map (·.1)).Nodup) (hl:nm.length<64):Bf S v=some (valN (bK nm)):=by
 unfold Bf
 rw [h.seq p]
 simp only [Option.bind_some,Le]
 rw [if_pos ⟨by rw [List.length_map];exact hl,by rw [List.map_map];exact nd⟩]
 congr 1
 rw [Ii,j5 (fun p:Str × Int=>p.1) (fun p=>(p.1,Vl.int p.2)) (·.1) (fun _=>rfl),List.map_map]
 rfl
theorem bZ (nm:dh):(bK nm).Perm nm:=ie _ nm
theorem DQ {nm:dh} (nd:(nm.map (·.1)).Nodup):((bK nm).map (·.1)).Nodup:=((bZ nm).map (·.1)).nodup_iff.mpr nd
def fG (it:Its) (x:Int):List Int:=match it[(x - 1).toNat]? with
 | some p=>p.2
 | none=>[]
def Um (it:Its) (x:Int):Str:=match it[(x - 1).toNat]? with
 | some p=>p.1
 | none=>Str.empty
def ord (nm:dh) (it:Its):List Int:=vM (fG it) it.length 0 (push [] ((bK nm).map (·.2)))
structure Sv (nm:dh) (it:Its):Prop where
 nd:(nm.map (·.1)).Nodup
 n6:nm.length≤6
 i6:it.length≤250
 hi:∀ p∈it,∀ t∈p.2,-1≤t∧t≤it.length
 ht:∀ p∈nm,-1≤p.2∧p.2≤it.length
 h2:∀ p∈it,p.2.length≤2
abbrev Uc (n:Nat) (x:Int):Prop:=1≤x∧x≤n
theorem QX {nm:dh} {it:Its} (h:Sv nm it) (x:Int):∀ t∈fG it x,-1≤t∧t≤it.length:=fun t ht=>by
 unfold fG at ht
 split at ht
 ·rename_i p e
  exact h.hi p (List.mem_of_getElem? e) t ht
 ·cases ht
theorem rA {nm:dh} {it:Its} (h:Sv nm it):∀ x∈ord nm it,Uc it.length x:=by
 refine VF (P:=Uc it.length) (fun x _ t ht h0=>⟨by omega,(QX h x t ht).2⟩) fun x hx=> ?_
 rcases m9.mp hx with c | ⟨c,d⟩
 ·cases c
 ·obtain ⟨p,hp,rfl⟩:=List.mem_map.mp c
  exact ⟨by omega,(h.ht p ((bZ nm).mem_iff.mp hp)).2⟩
theorem GJ {nm:dh} {it:Its}:(ord nm it).Nodup:=JQ (wR List.nodup_nil)
theorem rG {nm:dh} {it:Its} (h:Sv nm it):(ord nm it).length≤it.length:=ad3 GJ (rA h)
theorem Ds {it:Its} {x:Int} (h:Uc it.length x):∃ p,it[(x - 1).toNat]? =some p∧fG it x=p.2∧Um it x=p.1:=by
 obtain ⟨h1,h2⟩:=h
 have hl:(x - 1).toNat<it.length:=by omega
 refine ⟨it[(x - 1).toNat],List.getElem?_eq_getElem hl,?_,?_⟩
 ·unfold fG;rw [List.getElem?_eq_getElem hl]
 ·unfold Um;rw [List.getElem?_eq_getElem hl]
def Seen (f:List Int) (ks:List Key) (vs:List Vl):Prop:=dH vs=true∧ks.length≤f.length+2∧∀ t:Int,(ks.any fun j=>decide (j=Sum.inl t))=decide (t=0∨t= -1∨t∈f)
abbrev St (S:Hs) (f:List Int) (ks:List Key) (vs:List Vl):Hs:=S++[.lst (f.map .int),.dct ks vs]
theorem adW {ks:List Key} {t:Int} (h:(ks.any fun j=>decide (j=Sum.inl t))=false):Sum.inl t∉ks:=fun z=>by
 rw [List.any_eq_false] at h
 exact h _ z (decide_eq_true rfl)
theorem Lg {M:aF} {η:Sg} {S:Hs} {f:List Int} {ks:List Key} {vs:List Vl} {t:Int} (h2:η[2]? =some (some (.ref S.length))) (h3:η[3]? =some (some (.ref (S.length+1)))) (h5:η[5]? =some (some (.int t))) (ht: -1≤t) (hf:f.length≤300) (h:Seen f ks vs) :
  ∃ Ac vs',Seen (gM f t) Ac vs'∧exec M oM η (St S f ks vs)=.nx η (St S (gM f t) Ac vs'):=by
 obtain ⟨e1,e2,e3⟩:=h
 have mem:cmpop .NotIn (St S f ks vs) (.int t) (.ref (S.length+1))=some (!decide (t=0∨t= -1∨t∈f)):=by
  show (lU _ _ _).map not=_
  rw [ach (ks:=ks) (vs:=vs) (by simp only [aX,g1]),e3 t];rfl
 by_cases c:0<t∧t∉f
 ·have d:decide (t=0∨t= -1∨t∈f)=false:=decide_eq_false (by rintro (z | z | z);omega;omega;exact c.2 z)
  rw [d] at mem
  have hp:gM f t=f++[t]:=if_pos c
  have nk:=adW ((e3 t).trans d)
  refine ⟨ks++[Sum.inl t],vs++[.bl true],⟨nQ e1 (by simp [dH,Vl.nr]),by rw [hp];simp;omega,fun u=> ?_⟩,?_⟩
  ·rw [hp,List.any_append,e3 u]
   by_cases q:u=t
   ·subst q;simp
   ·have q2:¬ (Sum.inl t:Key)=Sum.inl u:=fun z=>q (Sum.inl.inj z).symm
    simp [q,q2]
  ·refine aq (cQ _ (aK (v_var h5) (v_var h3) mem) (aq (qK aj (v_var h3) (v_var h5) (jF (kk:=Sum.inl t) g1 rfl (by omega))) (aq (NT _ _ (BR (k:=S.length) (ys:=f.map .int) (v_var h2) ?_ (aa (v_var h5) az) ?_ (lw (by rw [List.length_map];omega)))) aM))) ?_
   ·rw [s1];simp only [qp,g0]
   ·rw [s1,g0]
   ·rw [s1,s0,tZ nk,hp,aM]
    show _=Out.nx η (S++[Ob.lst ((f++[t]).map Vl.int),_])
    rw [List.map_append];rfl
 ·have d:decide (t=0∨t= -1∨t∈f)=true:=decide_eq_true (by
   by_cases q:t∈f
   ·exact .inr (.inr q)
   ·by_cases q2:0<t
    ·exact absurd ⟨q2,q⟩ c
    ·omega)
  rw [d] at mem
  have hp:gM f t=f:=if_neg c
  rw [hp]
  exact ⟨ks,vs,⟨e1,e2,e3⟩,aq (bD _ (aK (v_var h5) (v_var h3) mem) aM) aM⟩
theorem yz {ts f:List Int}:(push f ts).length≤f.length+ts.length:=by
 induction ts generalizing f with
 | nil=>simp [zr]
 | cons t ts ih=>
  rw [pC]
  have:=ih (f:=gM f t)
  have h:(gM f t).length≤f.length+1:=by
   unfold gM
   split<;>simp
  simp only [List.length_cons];omega
theorem mY {f ts:List Int} {t:Int}:push f (ts++[t])=gM (push f ts) t:=by
 unfold push
 rw [List.foldl_append];rfl
theorem afs (n:Nat) {nm:dh} {it:Its} (h:Sv nm it) {nv iv:Vl} {S:Hs} (hn:Sq S nv (valN nm)) (zH:Sq S iv (aY it)) (hS:NR S):(Mn (n+1)).cal "met_from" [nv,iv] S=.ok (.frs (.lst ((ord nm it).map .int))) S:=by
 rw [Hq]
 have nd:=h.nd
 -- names
 have names:∃ a4 a5 a6 a7 a8 ks vs,forL (fun η1 S2=>exec (Mn n) oM η1 S2) (.tp (.cons (.nm 4) (.cons (.nm 5) .nil))) [] (valN (bK nm)) [some nv,some iv,some (.ref S.length),some (.ref (S.length+1)),none,none,none,none,none] (St S [] [Sum.inl 0,Sum.inl (-1)] [.bl true,.bl true])
   =.nx [some nv,some iv,some (.ref S.length),some (.ref (S.length+1)),a4,a5,a6,a7,a8] (St S (push [] ((bK nm).map (·.2))) ks vs)∧Seen (push [] ((bK nm).map (·.2))) ks vs:=by
  obtain ⟨η',S',h1,a4,a5,a6,a7,a8,ks,vs,e1,e2,e3⟩:=gW (body:=fun η1 S2=>exec (Mn n) oM η1 S2) (t:=.tp (.cons (.nm 4) (.cons (.nm 5) .nil))) (lk:=[]) (xs:=valN (bK nm)) (η:=[some nv,some iv,some (.ref S.length),some (.ref (S.length+1)),none,none,none,none,none]) (S:=St S [] [Sum.inl 0,Sum.inl (-1)] [.bl true,.bl true])
   (fun i η S'=>∃ a4 a5 a6 a7 a8 ks vs,η=[some nv,some iv,some (.ref S.length),some (.ref (S.length+1)),a4,a5,a6,a7,a8]∧S'=St S (push [] (((bK nm).map (·.2)).take i)) ks vs∧Seen (push [] (((bK nm).map (·.2)).take i)) ks vs)
   ⟨none,none,none,none,none,_,_,rfl,rfl,by simp [dH,Vl.nr],by simp [zr],fun t=>by
    simp only [List.take_zero,zr,List.any_cons,List.any_nil,Bool.or_false,List.not_mem_nil,or_false]
    by_cases c:t=0
    ·subst c;simp
    ·by_cases d:t= -1
     ·subst d;simp
     ·have c2:¬ (Sum.inl 0:Key)=Sum.inl t:=fun z=>c (Sum.inl.inj z).symm
      have d2:¬ (Sum.inl (-1):Key)=Sum.inl t:=fun z=>d (Sum.inl.inj z).symm
      simp [c,d,c2,d2]⟩ (fun i η S' _=>aU _) fun i x η S' hx ⟨a4,a5,a6,a7,a8,ks,vs,e1,e2,e3⟩=>by
    subst e1 e2
    obtain ⟨p,hp,rfl⟩:=WM hx
    have zG:((bK nm).map (·.2))[i]? =some p.2:=by rw [List.getElem?_map,hp];rfl
    have hr:=h.ht p ((bZ nm).mem_iff.mp (List.mem_of_getElem? hp))
    have hl:(push [] (((bK nm).map (·.2)).take i)).length≤300:=by
     have:=yz (f:=[]) (ts:=((bK nm).map (·.2)).take i)
     have q:=List.length_take_le i ((bK nm).map (·.2))
     have q2:=(bZ nm).length_eq
     have q3:=List.length_take_le' i ((bK nm).map (·.2))
     rw [List.length_map] at q3
     have:=h.n6
     simp only [List.length_nil] at*;omega
    obtain ⟨Ac,vs',k1,k2⟩:=Lg (M:=Mn n) (η:=[some nv,some iv,some (.ref S.length),some (.ref (S.length+1)),some (.str p.1),some (.int p.2),a6,a7,a8]) (S:=S) rfl rfl rfl hr.1 hl e3
    refine ⟨_,rfl,_,_,.inl k2,_,_,a6,a7,a8,Ac,vs',rfl,?_,?_⟩
    ·rw [cO zG,mY]
    ·rw [cO zG,mY];exact k1
  rw [List.take_of_length_le (by rw [List.length_map,jT];exact Nat.le_refl _)] at e2 e3
  subst e1 e2
  exact ⟨a4,a5,a6,a7,a8,ks,vs,h1,e3⟩
 -- one point's targets
 have inner:∀ (a4 a5 a6 a7:Option Vl) (p:Str × List Int) (f:List Int) (ks:List Key) (vs:List Vl),p∈it→f.length≤290→Seen f ks vs→∃ b5 Ac vs',forL (fun η1 S2=>exec (Mn n) tY η1 S2) (.nm 5) [] (p.2.map .int) [some nv,some iv,some (.ref S.length),some (.ref (S.length+1)),a4,a5,a6,a7,some (.tup (p.2.map .int))] (St S f ks vs)
   =.nx [some nv,some iv,some (.ref S.length),some (.ref (S.length+1)),a4,b5,a6,a7,some (.tup (p.2.map .int))] (St S (push f p.2) Ac vs')∧Seen (push f p.2) Ac vs':=fun a4 a5 a6 a7 p f ks vs hp hf hs=>by
  obtain ⟨η',S',h1,b5,Ac,vs',e1,e2,e3⟩:=gW (body:=fun η1 S2=>exec (Mn n) tY η1 S2) (t:=.nm 5) (lk:=[]) (xs:=p.2.map .int) (η:=[some nv,some iv,some (.ref S.length),some (.ref (S.length+1)),a4,a5,a6,a7,some (.tup (p.2.map .int))]) (S:=St S f ks vs)
   (fun i η S'=>∃ b5 ks vs,η=[some nv,some iv,some (.ref S.length),some (.ref (S.length+1)),a4,b5,a6,a7,some (.tup (p.2.map .int))]∧S'=St S (push f (p.2.take i)) ks vs∧Seen (push f (p.2.take i)) ks vs)
   ⟨a5,ks,vs,rfl,rfl,hs⟩ (fun i η S' _=>aU _) fun i x η S' hx ⟨b5,ks,vs,e1,e2,e3⟩=>by
    subst e1 e2
    rw [List.getElem?_map] at hx
    obtain ⟨t,ht,rfl⟩:=Option.map_eq_some_iff.mp hx
    have hl:(push f (p.2.take i)).length≤300:=by
     have:=yz (f:=f) (ts:=p.2.take i)
     have q:=List.length_take_le' i p.2
     have:=h.h2 p hp
     omega
    obtain ⟨Ac,vs',k1,k2⟩:=Lg (M:=Mn n) (η:=[some nv,some iv,some (.ref S.length),some (.ref (S.length+1)),a4,some (.int t),a6,a7,some (.tup (p.2.map .int))]) (S:=S) rfl rfl rfl (h.hi p hp t (List.mem_of_getElem? ht)).1 hl e3
    refine ⟨_,rfl,_,_,.inl k2,_,Ac,vs',rfl,?_,?_⟩
    ·rw [cO ht,mY]
    ·rw [cO ht,mY];exact k1
  rw [List.take_of_length_le (by rw [List.length_map];exact Nat.le_refl _)] at e2 e3
  subst e1 e2
  exact ⟨b5,Ac,vs',h1,e3⟩
 obtain ⟨a4,a5,a6,a7,a8,ks,vs,hnm,hse⟩:=names
 have hF:=rG h
 have al8:=rA h
 have Wg:∀ (f:List Int) (ks:List Key) (vs:List Vl),gY .len (St S f ks vs) (.ref S.length)=some (.int f.length):=fun f ks vs=>by
  simp only [gY,aX,cV,g0,Option.map_some,List.length_map]
 have lp:∃ η2 S2,FW (fun η1 S2=>ev (Mn n) (.cmp .Lt (.var 6) (.b1 .len (.var 2))) η1 S2) (fun η1 S2=>exec (Mn n) uI η1 S2) (Mn n).fuel [some nv,some iv,some (.ref S.length),some (.ref (S.length+1)),a4,a5,some (.int 0),a7,a8] (St S (push [] ((bK nm).map (·.2))) ks vs)=.nx η2 S2∧
   ∃ a4 a5 a6 a7 a8 ks vs,η2=[some nv,some iv,some (.ref S.length),some (.ref (S.length+1)),a4,a5,a6,a7,a8]∧S2=St S (ord nm it) ks vs:=by
  obtain ⟨η2,S2,h1,i2⟩:=aab (test:=fun η1 S2=>ev (Mn n) (.cmp .Lt (.var 6) (.b1 .len (.var 2))) η1 S2) (body:=fun η1 S2=>exec (Mn n) uI η1 S2)
   (fun m η S'=>∃ (k:Nat) (f:List Int) (a4 a5 a7 a8:Option Vl) (ks:List Key) (vs:List Vl),η=[some nv,some iv,some (.ref S.length),some (.ref (S.length+1)),a4,a5,some (.int k),a7,a8]∧S'=St S f ks vs∧Seen f ks vs∧k+m=(ord nm it).length∧vM (fG it) (it.length - k) k f=ord nm it)
   (fun m η S' ⟨k,f,a4,a5,a7,a8,ks,vs,e1,e2,e3,e4,e5⟩=>by
    subst e1 e2
    have pre:f<+:ord nm it:=by rw [← e5];exact kE
    have hfl:=pre.length_le
    have hk:k<f.length:=by
     refine Nat.lt_of_not_le fun c=> ?_
     have en:f[k]? =none:=List.getElem?_eq_none c
     have:vM (fG it) (it.length - k) k f=f:=by
      cases it.length - k with
      | zero=>rfl
      | succ d=>unfold vM;rw [en]
     rw [this] at e5
     rw [← e5] at e4;omega
    obtain ⟨x,hx⟩:∃ x,f[k]? =some x:=⟨f[k],List.getElem?_eq_getElem hk⟩
    have aaD:=al8 x (pre.subset (List.mem_of_getElem? hx))
    obtain ⟨p,hp,hnx,_⟩:=Ds aaD
    have hd:it.length - k=(it.length - (k+1))+1:=by omega
    rw [hd] at e5
    unfold vM at e5
    rw [hx] at e5
    simp only at e5
    rw [hnx] at e5
    refine ⟨aK (v_var rfl) (dG (v_var rfl) (Wg f ks vs)) (congrArg some (decide_eq_true (by omega))),?_⟩
    obtain ⟨b5,Ac,vs',k1,k2⟩:=inner a4 a5 (some (.int ((k:Int)+1))) (some (.str p.1)) p f ks vs (List.mem_of_getElem? hp) (by have:=h.i6;omega) e3
    have e7:((k:Int)+1)=((k+1:Nat):Int):=by omega
    have ix1:dM (St S f ks vs) (.ref S.length) (.int k)=some (.int x):=by
     show (match aX (St S f ks vs) (.ref S.length) with | some (ks,vs)=>_ | none=>_)=_
     simp only [aX,cV,g0]
     have:(f.map Vl.int)[k]? =some (.int x):=by rw [List.getElem?_map,hx];rfl
     exact jE (S:=[]) this
    have ex1:(x - 1:Int)=(((x - 1).toNat:Nat):Int):=by have:=aaD.1;omega
    refine ⟨_,_,aq (bz _ _ (dw (v_var rfl) (aW (dw (v_var rfl) (v_var rfl) ix1) aj (Rk x 1)) (by rw [ex1];exact zH.ix p1 _ _ (pM hp))) rfl) (aq (ajM rfl aj) (aq (jJ _ _ _ (iG (v_var rfl) rfl) k1) aM)),k+1,push f p.2,a4,b5,some (.str p.1),some (.tup (p.2.map .int)),Ac,vs',?_,rfl,k2,by omega,e5⟩
    rw [e7])
   (fun η S' ⟨k,f,a4,a5,a7,a8,ks,vs,e1,e2,e3,e4,e5⟩=>by
    subst e1 e2
    have pre:f<+:ord nm it:=by rw [← e5];exact kE
    have hfl:=pre.length_le
    exact aK (v_var rfl) (dG (v_var rfl) (Wg f ks vs)) (congrArg some (decide_eq_false (by omega))))
   (ord nm it).length (Mn n).fuel [some nv,some iv,some (.ref S.length),some (.ref (S.length+1)),a4,a5,some (.int 0),a7,a8] (St S (push [] ((bK nm).map (·.2))) ks vs)
   (by
     have:(Mn n).fuel=1000:=by cases n<;>rfl
     have:=h.i6;omega)
   ⟨0,_,a4,a5,a7,a8,ks,vs,rfl,rfl,hse,by omega,rfl⟩
  obtain ⟨k,f,a4,a5,a7,a8,ks,vs,e1,e2,e3,e4,e5⟩:=i2
  have pre:f<+:ord nm it:=by rw [← e5];exact kE
  have hfl:=pre.length_le
  have en:f[k]? =none:=List.getElem?_eq_none (by omega)
  have ef:f=ord nm it:=by
   rw [← e5]
   cases it.length - k with
   | zero=>rfl
   | succ d=>unfold vM;rw [en]
  subst ef
  exact ⟨_,_,h1,a4,a5,_,a7,a8,ks,vs,e1,e2⟩
 obtain ⟨η2,S2,hw,b4,b5,b6,b7,b8,ks2,vs2,rfl,rfl⟩:=lp
 refine vB (T:=[.lst ((ord nm it).map .int),.dct ks2 vs2]) (r:=0) rfl ?_ hS rfl (by simp only [Ob.nr,dU])
 show exec (Mn n) Hl [some nv,some iv,none,none,none,none,none,none,none] S=_
 have hd:d9 (Mn n) (.zq [Sum.inl (0),Sum.inl (-1)] (.cons (.cst (.bl true)) (.cons (.cst (.bl true)) .nil))) [some nv,some iv,some (.ref S.length),none,none,none,none,none,none] (S++[.lst []])=.ok (.dct [Sum.inl 0,Sum.inl (-1)] [.bl true,.bl true]) (S++[.lst []]):=
  aaC (aa aj (aa aj az)) (by simp [dH,Vl.nr]) (by decide) rfl (by decide)
 have e2:S++[.lst []]++[.dct [Sum.inl 0,Sum.inl (-1)] [.bl true,.bl true]]=St S [] [Sum.inl 0,Sum.inl (-1)] [.bl true,.bl true]:=by simp
 refine aq (bz _ _ (nY (lK az (by simp))) rfl) (aq (bz (.ref (S.length+1)) _ (by have:=nY hd;rw [List.append_assoc] at this;simpa using this) rfl) (aq (jJ _ _ _ (iG (du (Uq (v_var rfl) (K7 hn p1 nd (by have:=h.n6;omega)))) rfl) hnm) (aq (bz _ _ aj rfl) (aq (aji hw) (bF (dI _ _ (v_var rfl)))))))
end K04
namespace K04
open PySem L2 Oz
theorem YB {M:aF} {d:jU} {xs:List Vl} {S:Hs} {o o':Ob} (hl:xs.length=d.np) (hb:∃ η T,exec M d.body (xs.map some++List.replicate (d.nn - xs.length) none) (S++[o])=.nx η (S++[o']++T)) (hS:NR S) (hv:o'.nr=true):gK M d xs (S++[o])=.ok (.val .non) (S++[o']):=by
 obtain ⟨η,T,hb⟩:=hb
 unfold gK
 rw [if_pos hl,hb]
 simp only
 have hn:(S++[o]).length=(S++[o']).length:=by simp
 rw [hn]
 have ht:(S++[o']++T).take (S++[o']).length=S++[o']:=by
  rw [List.take_append_of_le_length (Nat.le_refl _),List.take_length]
 have hT:NR ((S++[o']++T).take (S++[o']).length):=by rw [ht];exact hS.one hv
 rw [Fw hT (by simp only [Vl.nr]),ht]
def eO (nm:dh) (it:Its):dh:=(bK nm).map fun p=>(p.1,anew (ord nm it) p.2)
def iT (nm:dh) (it:Its):Its:=(ord nm it).map fun x=>(Um it x,(fG it x).map (anew (ord nm it)))
def Pj (ld:dh) (it:Its):Ob:=.ins "Web" ["leads","spots"] [.dct (ld.map fun p=>Sum.inr p.1) (ld.map fun p=>.int p.2),.lst (aY it)]
theorem yt (ld:dh):dH (ld.map fun p=>Vl.int p.2)=true:=uN fun x hx=>by
 obtain ⟨p,_,rfl⟩:=List.mem_map.mp hx
 simp only [Vl.nr]
theorem Vb (ld:dh) (it:Its):(Pj ld it).nr=true:=by simp only [Pj,Ob.nr,dH,Vl.nr,yt,rP,Bool.and_self]
theorem NZ {nm:dh} {it:Its} (h:Sv nm it):(∀ p∈nm,0<p.2→p.2∈ord nm it)∧∀ x∈ord nm it,∀ t∈fG it x,0<t→t∈ord nm it:=by
 refine ⟨fun p hp h0=> ?_,fun x hx t ht h0=> ?_⟩
 ·exact kE.subset (m9.mpr (.inr ⟨List.mem_map.mpr ⟨p,(bZ nm).mem_iff.mpr hp,rfl⟩,h0⟩))
 ·obtain ⟨i,hi⟩:=List.getElem?_of_mem hx
  exact Dr (by have:=rG h;unfold ord at this;omega) i x (Nat.zero_le _) hi t ht h0
def mF (F:List Int) (u:Int):Option Int:=if u∈F then some ((F.idxOf u:Int)+1) else none
def m01 (m:Int→Option Int) (u:Int):Option Int:=if u= -1 then some (-1) else if u=0 then some 0 else m u
theorem abU (s u:Int):∀ (F:List Int),cG (F.map (Sum.inl:Int→Key)) ((List.range F.length).map fun (i:Nat)=>Vl.int (s+i)) (Sum.inl u)=if u∈F then some (.int (s+F.idxOf u)) else none:=by
 intro F
 induction F generalizing s with
 | nil=>simp [cG]
 | cons x F ih=>
  rw [List.length_cons,List.range_succ_eq_map,List.map_cons,List.map_cons,List.map_map]
  simp only [cG]
  by_cases c:x=u
  ·subst c
   rw [if_pos rfl,if_pos List.mem_cons_self]
   simp
  ·have c2:¬ (Sum.inl x:Key)=Sum.inl u:=fun z=>c (Sum.inl.inj z)
   rw [if_neg c2]
   have e:(List.range F.length).map ((fun (i:Nat)=>Vl.int (s+i)) ∘ Nat.succ)=(List.range F.length).map fun (i:Nat)=>Vl.int (s+1+i):=List.map_congr_left fun i _=>by
    simp only [Function.comp]
    congr 1
    omega
   rw [e,ih (s+1)]
   by_cases d:u∈F
   ·have e3:(x::F).idxOf u=F.idxOf u+1:=by simp only [List.idxOf_cons,beq_eq_false_iff_ne.mpr c,cond_false]
    rw [if_pos d,if_pos (List.mem_cons_of_mem _ d),e3]
    congr 2
    omega
   ·rw [if_neg d,if_neg (by simp [d,Ne.symm c])]
def JB (x:Vl):Key × Vl:=match x with
 | .tup [y,.int p]=>(Sum.inl p,y)
 | _=>(Sum.inl 0,.non)
theorem afN (s:Int):∀ F:List Int,((iH s (F.map Vl.int)).map JB).map (·.1)=F.map Sum.inl∧((iH s (F.map Vl.int)).map JB).map (·.2)=(List.range F.length).map fun (i:Nat)=>Vl.int (s+i):=by
 intro F
 induction F generalizing s with
 | nil=>exact ⟨rfl,rfl⟩
 | cons x F ih=>
  obtain ⟨h1,h2⟩:=ih (s+1)
  rw [List.length_cons,List.range_succ_eq_map,List.map_cons,List.map_cons]
  simp only [iH,List.map_cons,JB]
  refine ⟨by rw [h1],?_⟩
  rw [h2,List.map_map]
  congr 1
  ·simp
  ·exact List.map_congr_left fun i _=>by
    simp only [Function.comp]
    congr 1
    omega
theorem abB {F:List Int} (nd:F.Nodup):∃ ks vs,j6 ((iH 1 (F.map Vl.int)).map JB) [] []=(ks,vs)∧Dm ks vs (mF F)∧ks.length=F.length:=by
 obtain ⟨h1,h2⟩:=afN 1 F
 have hk:(F.map (Sum.inl:Int→Key)).Nodup:=List.Pairwise.map _ (fun a b ne z=>ne (Sum.inl.inj z)) nd
 refine ⟨_,_,wY (by rw [List.nil_append,h1];exact hk),?_,by rw [h1];simp⟩
 rw [h1,h2,List.nil_append,List.nil_append]
 refine ⟨by simp,uN fun x hx=> ?_,fun u=> ?_⟩
 ·obtain ⟨i,_,rfl⟩:=List.mem_map.mp hx
  simp only [Vl.nr]
 ·rw [abU]
  unfold mF
  by_cases c:u∈F
  ·rw [if_pos c,if_pos c,Option.map_some]
   congr 2
   omega
  ·rw [if_neg c,if_neg c];rfl
theorem Zo {F:List Int} {m:Int→Option Int} (hm:∀ u,0<u→m u=mF F u) {t:Int} (h: -1≤t) (hF:0<t→t∈F):m01 m t=some (anew F t):=by
 unfold m01 anew
 by_cases c:0<t
 ·rw [if_neg (by omega),if_neg (by omega),if_pos c,hm t c]
  unfold mF
  rw [if_pos (hF c)]
 ·rw [if_neg c]
  by_cases d:t= -1
  ·rw [if_pos d,d]
  ·rw [if_neg d,if_pos (show t=0 by omega)]
   congr 1
   omega
theorem g1' {S T:Hs} {a b:Ob}:(S++[a,b]++T)[S.length+1]? =some b:=by
 rw [List.getElem?_append_left (by simp)];exact g1
def gName (F:List Int) (x:Vl):Key × Vl:=match x with
 | .tup [.str z,.int t]=>(Sum.inr z,.int (anew F t))
 | _=>(Sum.inl 0,.non)
def QW (it:Its) (F:List Int) (x:Vl):Vl:=match x with
 | .int x=>.tup [.str (Um it x),.tup (((fG it x).map (anew F)).map .int)]
 | _=>.non
theorem Kf (nm:dh) (it:Its):aY (iT nm it)=((ord nm it).map Vl.int).map (QW it (ord nm it)):=by
 unfold aY iT
 rw [List.map_map,List.map_map]
 rfl
theorem Zy {nm:dh} {it:Its} (nd:(nm.map (·.1)).Nodup):j6 ((valN (bK nm)).map (gName (ord nm it))) [] []=((eO nm it).map fun p=>Sum.inr p.1,(eO nm it).map fun p=>.int p.2):=by
 have h1:((valN (bK nm)).map (gName (ord nm it))).map (·.1)=(eO nm it).map fun p=>(Sum.inr p.1:Key):=by
  unfold valN eO
  rw [List.map_map,List.map_map,List.map_map]
  rfl
 have h2:((valN (bK nm)).map (gName (ord nm it))).map (·.2)=(eO nm it).map fun p=>Vl.int p.2:=by
  unfold valN eO
  rw [List.map_map,List.map_map,List.map_map]
  rfl
 rw [wY,h1,h2,List.nil_append,List.nil_append]
 rw [List.nil_append,h1]
 have h3:(eO nm it).map (fun p=>(Sum.inr p.1:Key))=((bK nm).map (·.1)).map Sum.inr:=by
  unfold eO
  rw [List.map_map,List.map_map]
  rfl
 rw [h3]
 exact List.Pairwise.map _ (fun a b ne z=>ne (Sum.inr.inj z)) (DQ nd)
inductive Vd (nm:dh) (it:Its):Option (Str × Vl)→Prop where
 | name (j:Nat) (p:Str × Int) (hp:nm[j]? =some p) (hb:iJ nm j=false) (hg:∀ i,i<j→iJ nm i=true):Vd nm it (some ("BadName",.str p.1))
 | item (hN:∀ i,i<nm.length→iJ nm i=true) (j:Nat) (p:Str × List Int) (hp:it[j]? =some p) (hb:dZ it.length p=false) (hg:∀ i q,i<j→it[i]? =some q→dZ it.length q=true):Vd nm it (some ("BadWeb",.int j))
 | tgt (hN:∀ i,i<nm.length→iJ nm i=true) (hI:∀ q∈it,dZ it.length q=true) (hb:(nm.all fun p=>inR it.length p.2)=false):Vd nm it (some ("BadWeb",.int (-1)))
 | many (hN:∀ i,i<nm.length→iJ nm i=true) (hI:∀ q∈it,dZ it.length q=true) (hT:(nm.all fun p=>inR it.length p.2)=true) (h6:6<nm.length∨200<it.length):Vd nm it (some ("BadWeb",.non))
 | met (hN:∀ i,i<nm.length→iJ nm i=true) (hI:∀ q∈it,dZ it.length q=true) (hT:(nm.all fun p=>inR it.length p.2)=true) (hf:Sv nm it) (h2:it.length≤200) (hm:(ord nm it).length<it.length):Vd nm it (some ("BadWeb",.non))
 | ok (hN:∀ i,i<nm.length→iJ nm i=true) (hI:∀ q∈it,dZ it.length q=true) (hT:(nm.all fun p=>inR it.length p.2)=true) (hf:Sv nm it) (h2:it.length≤200) (Q6:(ord nm it).length=it.length):Vd nm it none
structure Sz (nm:dh) (it:Its):Prop where
 hz:∀ p∈nm,p.1.length≤1000
 nl:nm.length≤1000
 iz:∀ p∈it,p.1.length≤1000
 tz:∀ p∈it,p.2.length≤1000
 il:it.length≤1000
theorem vm {many t:Int}:inR many t=true↔-1≤t∧t≤many:=by
 unfold inR
 rw [Bool.and_eq_true,decide_eq_true_eq,decide_eq_true_eq]
theorem Ih {many:Int} {p:Str × List Int} (h:dZ many p=true):p.2.length≤2∧∀ t∈p.2,-1≤t∧t≤many:=by
 unfold dZ nD at h
 rw [Bool.and_eq_true] at h
 refine ⟨?_,fun t ht=>vm.mp (List.all_eq_true.mp h.2 t ht)⟩
 have h1:=h.1
 split at h1
 ·rw [decide_eq_true_eq] at h1;omega
 ·rw [Bool.and_eq_true,decide_eq_true_eq] at h1;omega
theorem aix {nm:dh} {it:Its} (z:Sz nm it):∃ v,Vd nm it v:=by
 rcases Ah (iJ nm) nm.length with hN | ⟨j,h1,h2,h3⟩
 ·rcases Ah (fun i=>match it[i]? with | some q=>dZ it.length q | none=>true) it.length with hI | ⟨j,h1,h2,h3⟩
  ·have hI':∀ q∈it,dZ it.length q=true:=fun q hq=>by
    obtain ⟨i,hi⟩:=List.getElem?_of_mem hq
    have:=hI i (List.getElem?_eq_some_iff.mp hi).1
    simpa only [hi] using this
   cases hT:(nm.all fun p=>inR it.length p.2) with
   | false=>exact ⟨_,.tgt hN hI' hT⟩
   | true=>
    by_cases h6:nm.length≤6∧it.length≤200
    ·have hf:Sv nm it:=⟨acD hN,h6.1,Nat.le_trans h6.2 (by decide),fun p hp=>(Ih (hI' p hp)).2,fun p hp=>vm.mp (List.all_eq_true.mp hT p hp),fun p hp=>(Ih (hI' p hp)).1⟩
     have:=rG hf
     by_cases hm:(ord nm it).length<it.length
     ·exact ⟨_,.met hN hI' hT hf h6.2 hm⟩
     ·exact ⟨_,.ok hN hI' hT hf h6.2 (by omega)⟩
    ·exact ⟨_,.many hN hI' hT (by omega)⟩
  ·have hj:=List.getElem?_eq_getElem h1
   simp only [hj] at h2
   refine ⟨_,.item hN j it[j] hj h2 fun i q hi hq=> ?_⟩
   have:=h3 i hi
   simpa only [hq] using this
 ·exact ⟨_,.name j nm[j] (List.getElem?_eq_getElem h1) h2 h3⟩
def abA (c:Str):Str:=if c=("BadName":Str) then "name" else "place"
abbrev sI (S:Hs) (nv iv:Vl) (a3 a4 a5:Option Vl):Sg:=[some (.ref S.length),some nv,some iv,a3,a4,a5,none,none,none,none,none,none,none]
def fTg (many:Int) (x:Vl):Vl:=match x with
 | .tup [_,.int t]=>.bl (inR many t)
 | _=>.non
section
variable {nm:dh} {it:Its} {nv iv:Vl} {S:Hs}
theorem u6 (n:Nat) (z:Sz nm it) (hn:Sq S nv (valN nm)) (hS:NR S) (hN:∀ i,i<nm.length→iJ nm i=true):aP (Mn (n+2)) (.ex (.call "need_names" (.cons (.var 1) .nil))) (sI S nv iv none none none) (S++[.ins "Web" [] []])=.nx (sI S nv iv none none none) (S++[.ins "Web" [] []]):=
 NT _ _ (bJ (r:=.val .non) (aa (v_var rfl) az) (XR n z.hz (by have:=z.nl;omega) hN (let ⟨lk,w⟩:=hn.walk;⟨lk,fun T=>w p2⟩) (hS.one (by simp [Ob.nr,dH]))))
theorem Tz (n:Nat) (z:Sz nm it) (zH:Sq S iv (aY it)) (hS:NR S) {i:Nat} {x:Vl} (hx:(iH 0 (aY it))[i]? =some x) (a3 a4 a5:Option Vl):∃ p,it[i]? =some p∧aZ (.tp (.cons (.nm 3) (.cons (.tp (.cons (.nm 4) (.cons (.nm 5) .nil))) .nil))) x (sI S nv iv a3 a4 a5)=some (sI S nv iv (some (.int i)) (some (.str p.1)) (some (.tup (p.2.map .int))))∧
  ev (Mn (n+2)) (.pK (.call "is_item" (.cons (.var 4) (.cons (.var 5) (.cons (.b1 .len (.var 2)) .nil))))) (sI S nv iv (some (.int i)) (some (.str p.1)) (some (.tup (p.2.map .int)))) (S++[.ins "Web" [] []])=.ok (.bl (!dZ it.length p)) (S++[.ins "Web" [] []]):=by
 obtain ⟨v,hv,rfl⟩:=pN hx
 obtain ⟨p,hp,rfl⟩:=V8 hv
 have hm:=List.mem_of_getElem? hp
 refine ⟨p,hp,?_,jK (bJ (r:=.val (.bl (dZ it.length p))) (aa (v_var rfl) (aa (v_var rfl) (aa (dG (v_var rfl) (by have:=zH.len (S:=S++[.ins "Web" [] []]) p1;rwa [fQ] at this)) az))) (ahG n (z.iz p hm) (by have:=z.tz p hm;omega) (hS.one (by simp [Ob.nr,dH]))))⟩
 have:((0:Int)+(i:Int))=(i:Int):=by omega
 rw [this];rfl
theorem Dj (n:Nat) (z:Sz nm it) (zH:Sq S iv (aY it)) (hS:NR S) (hI:∀ q∈it,dZ it.length q=true):∃ a3 a4 a5,aP (Mn (n+2)) (.for_ (.tp (.cons (.nm 3) (.cons (.tp (.cons (.nm 4) (.cons (.nm 5) .nil))) .nil))) (.YX (.var 2) 0) iZ) (sI S nv iv none none none) (S++[.ins "Web" [] []])=.nx (sI S nv iv a3 a4 a5) (S++[.ins "Web" [] []]):=by
 obtain ⟨lk,hw⟩:=zH.walk
 obtain ⟨η',S',h1,a3,a4,a5,e1,e2⟩:=gW (body:=fun η1 S2=>exec (Mn (n+2)) iZ η1 S2) (t:=.tp (.cons (.nm 3) (.cons (.tp (.cons (.nm 4) (.cons (.nm 5) .nil))) .nil))) (lk:=lk) (xs:=iH 0 (aY it)) (η:=sI S nv iv none none none) (S:=S++[.ins "Web" [] []])
  (fun i η S'=>∃ a3 a4 a5,η=sI S nv iv a3 a4 a5∧S'=S++[.ins "Web" [] []])
  ⟨none,none,none,rfl,rfl⟩ (fun i η S' ⟨_,_,_,_,e2⟩=>by rw [e2];exact (hw p1).2) fun i x η S' hx ⟨a3,a4,a5,e1,e2⟩=>by
   subst e1 e2
   obtain ⟨p,hp,hb,ht⟩:=Tz n z zH hS hx a3 a4 a5
   rw [hI p (List.mem_of_getElem? hp)] at ht
   exact ⟨_,hb,_,_,.inl (aq (bD _ ht aM) aM),_,_,_,rfl,rfl⟩
 subst e1 e2
 exact ⟨a3,a4,a5,jJ _ _ _ (Gx (v_var rfl) (hw p1).1) h1⟩
theorem abp {xs:List Vl} {x:Vl}:∀ {s:Int} {i:Nat},xs[i]? =some x→∃ k:Int,(iH s xs)[i]? =some (.tup [.int k,x]):=by
 induction xs with
 | nil=>intro s i h;simp at h
 | cons y ys ih=>
  intro s i h
  cases i with
  | zero=>cases (show some y=some x by simpa using h);exact ⟨s,rfl⟩
  | succ i=>
   obtain ⟨k,hk⟩:=ih (s:=s+1) (i:=i) (by simpa using h)
   exact ⟨k,by simpa only [iH,List.getElem?_cons_succ] using hk⟩
theorem Zu (n:Nat) (z:Sz nm it) (zH:Sq S iv (aY it)) (hS:NR S) {j:Nat} {p:Str × List Int} (hp:it[j]? =some p) (hb:dZ it.length p=false) (hg:∀ i q,i<j→it[i]? =some q→dZ it.length q=true):∃ η,aP (Mn (n+2)) (.for_ (.tp (.cons (.nm 3) (.cons (.tp (.cons (.nm 4) (.cons (.nm 5) .nil))) .nil))) (.YX (.var 2) 0) iZ) (sI S nv iv none none none) (S++[.ins "Web" [] []])=.exc ⟨"BadWeb",some (["place"],[.int j])⟩ η (S++[.ins "Web" [] []]):=by
 obtain ⟨lk,hw⟩:=zH.walk
 obtain ⟨k,hk⟩:=abp (s:=0) (pM hp)
 obtain ⟨η',S',⟨a3,a4,a5,e1,e2⟩,hend⟩:=Rm (body:=fun η1 S2=>exec (Mn (n+2)) iZ η1 S2) (t:=.tp (.cons (.nm 3) (.cons (.tp (.cons (.nm 4) (.cons (.nm 5) .nil))) .nil))) (lk:=lk) (xs:=iH 0 (aY it)) (η:=sI S nv iv none none none) (S:=S++[.ins "Web" [] []])
  (fun i η S'=>∃ a3 a4 a5,η=sI S nv iv a3 a4 a5∧S'=S++[.ins "Web" [] []]) j
  ⟨none,none,none,rfl,rfl⟩ (fun i η S' ⟨_,_,_,_,e2⟩=>by rw [e2];exact (hw p1).2) hk fun i x η S' hi hx ⟨a3,a4,a5,e1,e2⟩=>by
   subst e1 e2
   obtain ⟨p,hp,hb,ht⟩:=Tz n z zH hS hx a3 a4 a5
   rw [hg i p hi hp] at ht
   exact ⟨_,hb,_,_,.inl (aq (bD _ ht aM) aM),_,_,_,rfl,rfl⟩
 subst e1 e2
 obtain ⟨p',hp',hbd,ht⟩:=Tz n z zH hS hk a3 a4 a5
 cases hp.symm.trans hp'
 rw [hb] at ht
 exact ⟨_,jJ _ _ _ (Gx (v_var rfl) (hw p1).1) (hend _ _ hbd (cA (cQ _ ht (cA (x_raise (v_var rfl) (eG (n+2)))))) (.inl ⟨_,_,_,rfl⟩))⟩
theorem M9 (n:Nat) (z:Sz nm it) (hn:Sq S nv (valN nm)) (zH:Sq S iv (aY it)) (a3 a4 a5:Option Vl) {S':Hs} (hp:S<+:S'):ev (Mn (n+2)) (.pK (.b1 .all (.inl o8))) (sI S nv iv a3 a4 a5) S'=.ok (.bl (!(nm.all fun p=>inR it.length p.2))) S':=by
 have Rw:∀ T,gY .len (S'++T) iv=some (.int it.length):=fun T=>by have:=zH.len (hp.trans (p1 (T:=T)));rwa [fQ] at this
 obtain ⟨lk,hw⟩:=hn.walk
 have e:(nm.map fun p=>Vl.bl (inR it.length p.2))=(valN nm).map (fTg it.length):=by unfold valN;rw [List.map_map];rfl
 refine jK (dG (du (o:=.lst (nm.map fun p=>.bl (inR it.length p.2))) ?_) (Dh _ _ _))
 rw [e]
 unfold o8
 refine fM lk (valN nm) (fTg it.length) (iG (v_var rfl) (hw hp).1) (hw hp).2 (by rw [jT];have:=z.nl;omega) (fun x hx=> ?_) fun x hx aQ _=> ?_
 ·obtain ⟨p,hp,rfl⟩:=List.mem_map.mp hx
  simp only [fTg,Vl.nr]
 ·obtain ⟨p,hp,rfl⟩:=List.mem_map.mp hx
  exact ⟨_,rfl,afy aj (v_var rfl) (dG (v_var rfl) (Rw _))⟩
end
theorem afH (n:Nat) {nm:dh} {it:Its} (z:Sz nm it) (XJ:it.length≤200) (hN:∀ i,i<nm.length→iJ nm i=true) (hI:∀ q∈it,dZ it.length q=true) (hT:(nm.all fun p=>inR it.length p.2)=true) (h:Sv nm it) (Q6:(ord nm it).length=it.length) {nv iv:Vl} {S:Hs} (hn:Sq S nv (valN nm)) (zH:Sq S iv (aY it)) (hS:NR S) :
  (Mn (n+3)).cal (dot "Web" "__init__") [.ref S.length,nv,iv] (S++[.ins "Web" [] []])=.ok (.val .non) (S++[Pj (eO nm it) (iT nm it)]):=by
 rw [qw]
 refine YB rfl ?_ hS (Vb _ _)
 show ∃ η T,exec (Mn (n+2)) rH [some (.ref S.length),some nv,some iv,none,none,none,none,none,none,none,none,none,none] (S++[.ins "Web" [] []])=_
 have W8:NR (S++[.ins "Web" [] []]):=hS.one (by simp [Ob.nr,dH])
 obtain ⟨a3,a4,a5,hit1⟩:=Dj (nm:=nm) (nv:=nv) n z zH hS hI
 have F:=ord nm it
 obtain ⟨c1,c2⟩:=NZ h
 have hnl:∀ T,gY .len (S++T) nv=some (.int nm.length):=fun T=>by have:=hn.len (p1 (T:=T));rwa [jT] at this
 have Rw:∀ T,gY .len (S++T) iv=some (.int it.length):=fun T=>by have:=zH.len (p1 (T:=T));rwa [fQ] at this
 have aim:=M9 (S:=S) n z hn zH a3 a4 a5 (S':=S++[.ins "Web" [] []]) p1
 rw [hT] at aim
 -- the dict of new numbers
 obtain ⟨ks,vs,ed,hD,hkl⟩:=abB (F:=ord nm it) GJ
 have ofl:=rG h
 have hi6:=h.i6
 have h6:=h.n6
 have dct:d9 (Mn (n+2)) vW [some (.ref S.length),some nv,some iv,a3,a4,a5,none,none,some (.lst ((ord nm it).map .int)),none,none,none,none] (S++[.ins "Web" [] []])=.ok (.dct ks vs) (S++[.ins "Web" [] []]):=by
  have:=Qg (M:=Mn (n+2)) (own:=[10,11]) (ke:=.var 11) (ve:=.var 10) (t:=.tp (.cons (.nm 10) (.cons (.nm 11) .nil))) (s:=.YX (.var 8) 1) (η:=[some (.ref S.length),some nv,some iv,a3,a4,a5,none,none,some (.lst ((ord nm it).map .int)),none,none,none,none]) (S:=S++[.ins "Web" [] []]) [] (iH 1 ((ord nm it).map .int)) JB (Gx (v_var rfl) rfl) (aU _) (by rw [vA,List.length_map];omega) (fun x hx=>by
    obtain ⟨i,hi⟩:=List.getElem?_of_mem hx
    obtain ⟨v,hv,rfl⟩:=pN hi
    rw [List.getElem?_map] at hv
    obtain ⟨y,_,rfl⟩:=Option.map_eq_some_iff.mp hv
    simp only [JB,Vl.nr]) fun x hx ks vs _=>by
    obtain ⟨i,hi⟩:=List.getElem?_of_mem hx
    obtain ⟨v,hv,rfl⟩:=pN hi
    rw [List.getElem?_map] at hv
    obtain ⟨y,_,rfl⟩:=Option.map_eq_some_iff.mp hv
    exact ⟨_,.int y,rfl,v_var rfl,rfl,v_var rfl⟩
  rw [ed] at this
  exact this
 have D1:=(hD.put 0 0).put (-1) (-1)
 generalize alE:(putD (putD ks vs (Sum.inl 0) (.int 0)).1 (putD ks vs (Sum.inl 0) (.int 0)).2 (Sum.inl (-1)) (.int (-1))).1=ks2 at D1
 generalize akO:(putD (putD ks vs (Sum.inl 0) (.int 0)).1 (putD ks vs (Sum.inl 0) (.int 0)).2 (Sum.inl (-1)) (.int (-1))).2=vs2 at D1
 have hm:∀ t:Int,-1≤t→(0<t→t∈ord nm it)→cG ks2 vs2 (Sum.inl t)=some (.int (anew (ord nm it) t)):=fun t h1 h2=>by
  rw [D1.2.2 t]
  have:=Zo (F:=ord nm it) (m:=mF (ord nm it)) (fun _ _=>rfl) h1 h2
  unfold m01 at this
  exact congrArg (Option.map Vl.int) this
 have ixA:∀ (T:Hs) (a:Ob) (t:Int),-1≤t→(0<t→t∈ord nm it)→dM (S++[a,.dct ks2 vs2]++T) (.ref (S.length+1)) (.int t)=some (.int (anew (ord nm it) t)):=fun T a t h1 h2=>by
  rw [Ux (ks:=ks2) (vs:=vs2) (by simp only [aX,g1'])]
  exact hm t h1 h2
 have anm:ks.length≤300:=by omega
 have am6:(putD ks vs (Sum.inl 0) (.int 0)).1.length≤400:=by
  have:=(M7 (k:=Sum.inl 0) (y:=.int 0) hD.1).2
  omega
 -- names and spots
 have ajs:d9 (Mn (n+2)) wA [some (.ref S.length),some nv,some iv,a3,a4,a5,none,none,some (.lst ((ord nm it).map .int)),some (.ref (S.length+1)),none,none,none] (S++[.ins "Web" [] [],.dct ks2 vs2])=.ok (.dct ((eO nm it).map fun p=>Sum.inr p.1) ((eO nm it).map fun p=>.int p.2)) (S++[.ins "Web" [] [],.dct ks2 vs2]):=by
  have:=Qg (M:=Mn (n+2)) (own:=[6,7]) (ke:=.var 6) (ve:=.idx (.var 9) (.var 7)) (t:=.tp (.cons (.nm 6) (.cons (.nm 7) .nil))) (s:=.sq (.inl (.YK (.var 1)))) (η:=[some (.ref S.length),some nv,some iv,a3,a4,a5,none,none,some (.lst ((ord nm it).map .int)),some (.ref (S.length+1)),none,none,none]) (S:=S++[.ins "Web" [] [],.dct ks2 vs2]) [] (valN (bK nm)) (gName (ord nm it)) (iG (du (Uq (v_var rfl) (K7 hn p1 h.nd (by omega)))) rfl) (aU _) (by rw [jT,(bZ nm).length_eq];omega) (fun x hx=>by
    obtain ⟨p,_,rfl⟩:=List.mem_map.mp hx
    simp only [gName,Vl.nr]) fun x hx ks vs _=>by
    obtain ⟨p,hp,rfl⟩:=List.mem_map.mp hx
    have hp':=(bZ nm).mem_iff.mp hp
    exact ⟨_,.str p.1,rfl,v_var rfl,rfl,dw (v_var rfl) (v_var rfl) (ixA _ _ _ (h.ht p hp').1 (c1 p hp'))⟩
  rw [Zy h.nd] at this
  exact this
 have aaI:∀ (a:Ob),d9 (Mn (n+2)) oV [some (.ref S.length),some nv,some iv,a3,a4,a5,none,none,some (.lst ((ord nm it).map .int)),some (.ref (S.length+1)),none,none,none] (S++[a,.dct ks2 vs2])=.ok (.lst (aY (iT nm it))) (S++[a,.dct ks2 vs2]):=fun a=>by
  rw [Kf]
  unfold oV
  refine fM [] ((ord nm it).map .int) (QW it (ord nm it)) (iG (v_var rfl) rfl) (aU _) (by rw [List.length_map];omega) (fun x hx=>by
   obtain ⟨y,_,rfl⟩:=List.mem_map.mp hx
   simp only [QW,Vl.nr,dH,dU,Bool.and_self]) fun x hx aQ _=> ?_
  obtain ⟨y,hy,rfl⟩:=List.mem_map.mp hx
  have ZC:=rA h y hy
  obtain ⟨p,hp,hnx,hwo⟩:=Ds ZC
  have ey:(y - 1:Int)=(((y - 1).toNat:Nat):Int):=by have:=ZC.1;omega
  have ixI:∀ {S':Hs},S<+:S'→dM S' iv (.int (y - 1))=some (.tup [.str p.1,.tup (p.2.map .int)]):=fun q=>by
   rw [ey];exact zH.ix q _ _ (pM hp)
  refine ⟨_,rfl,?_⟩
  show ev _ _ _ _=.ok (.tup [.str (Um it y),.tup (((fG it y).map (anew (ord nm it))).map .int)]) _
  rw [hwo,hnx]
  refine jg (aa (dw (dw (v_var rfl) (aW (v_var rfl) aj (Rk y 1)) (ixI p2)) aj (ix_tup (i:=0) rfl)) (aa (dG (du (o:=.lst ((p.2.map (anew (ord nm it))).map .int)) ?_) rfl) az)) (show 2≤1000000 by decide)
  ·unfold wz
   have e:(p.2.map (anew (ord nm it))).map Vl.int=(p.2.map Vl.int).map (fun v=>match v with | .int t=>.int (anew (ord nm it) t) | _=>.non):=by
    rw [List.map_map,List.map_map];rfl
   rw [e]
   refine fM [] (p.2.map .int) _ (iG (dw (dw (v_var rfl) (aW (v_var rfl) aj (Rk y 1)) (ixI p2)) aj (ix_tup (i:=1) rfl)) rfl) (aU _) (by rw [List.length_map];have:=h.h2 p (List.mem_of_getElem? hp);omega) (fun x hx=>by
    obtain ⟨t,_,rfl⟩:=List.mem_map.mp hx
    simp only [Vl.nr]) fun x hx abC _=> ?_
   obtain ⟨t,ht,rfl⟩:=List.mem_map.mp hx
   refine ⟨_,rfl,dw (v_var rfl) (v_var rfl) ?_⟩
   have ht':t∈fG it y:=by rw [hnx];exact ht
   have:=ixA ([.lst aQ]++[.lst abC]) a t (QX h y t ht').1 (c2 y hy t ht')
   rw [← List.append_assoc] at this
   exact this
 have e1:S++[.ins "Web" [] []]++[.dct ks vs]=S++[.ins "Web" [] [],.dct ks vs]:=by simp
 have n1:(S++[Ob.ins "Web" [] []]).length=S.length+1:=by simp
 refine ⟨[some (.ref S.length),some nv,some iv,a3,a4,a5,none,none,some (.lst ((ord nm it).map .int)),some (.ref (S.length+1)),none,none,none],[.dct ks2 vs2],aq (u6 n z hn hS hN) (aq hit1 (aq (bD _ aim aM) (aq (bD _ (uE (aK (dG (v_var rfl) (hnl _)) aj (congrArg some (decide_eq_false ?_))) (aK (dG (v_var rfl) (Rw _)) aj (congrArg some (decide_eq_false ?_)))) aM) (aq (bz _ _ (bJ (aa (v_var rfl) (aa (v_var rfl) az)) (afs (n+1) h hn.up zH.up W8)) rfl) (aq (bD _ (aK (dG (v_var rfl) (mJ _ _)) (dG (v_var rfl) (Rw _)) (congrArg some (decide_eq_false ?_))) aM) (aq (bz (.ref (S.length+1)) (S++[.ins "Web" [] [],.dct ks vs]) ?_ rfl) (aq (adQ (jg (aa aj (aa aj az)) (show 2≤1000000 by decide)) (v_var rfl) aj (jF (kk:=Sum.inl 0) g1 rfl (by omega)) (v_var rfl) aj (jF (kk:=Sum.inl (-1)) (by rw [s1,g1]) rfl (by omega))) ?_)))))))⟩
 ·omega
 ·omega
 ·rw [List.length_map];omega
 ·have:=nY dct
  rw [e1,n1] at this
  exact this
 ·rw [s1,s1,alE,akO]
  refine aq (aaK (du ajs) (v_var rfl) g0 (show 0<1000 by decide)) ?_
  rw [s0]
  refine aq (aaK (du (aaI _)) (v_var rfl) g0 (show 1<1000 by decide)) ?_
  rw [s0,aM]
  have:S++[Pj (eO nm it) (iT nm it)]++[Ob.dct ks2 vs2]=S++[Pj (eO nm it) (iT nm it),.dct ks2 vs2]:=by simp
  rw [this]
  rfl
theorem aee (n:Nat) {nm:dh} {it:Its} (z:Sz nm it) {c:Str} {x:Vl} (hv:Vd nm it (some (c,x))) {nv iv:Vl} {S:Hs} (hn:Sq S nv (valN nm)) (zH:Sq S iv (aY it)) (hS:NR S) :
  (Mn (n+3)).cal (dot "Web" "__init__") [.ref S.length,nv,iv] (S++[.ins "Web" [] []])=.exc ⟨c,some ([abA c],[x])⟩ (S++[.ins "Web" [] []]):=by
 rw [qw]
 have W8:NR (S++[.ins "Web" [] []]):=hS.one (by simp [Ob.nr,dH])
 have hnl:∀ T,gY .len (S++T) nv=some (.int nm.length):=fun T=>by have:=hn.len (p1 (T:=T));rwa [jT] at this
 have Rw:∀ T,gY .len (S++T) iv=some (.int it.length):=fun T=>by have:=zH.len (p1 (T:=T));rwa [fQ] at this
 have hl:=z.il
 have key:∃ η,exec (Mn (n+2)) rH (sI S nv iv none none none) (S++[.ins "Web" [] []])=.exc ⟨c,some ([abA c],[x])⟩ η (S++[.ins "Web" [] []])∧x.nr=true:=by
  cases hv with
  | name j p hp hb hg=>exact ⟨_,cA (aaM (xV (aa (v_var rfl) az) (SQ n z.hz (by have:=z.nl;omega) hp hb hg (let ⟨lk,w⟩:=hn.walk;⟨lk,fun T=>w p2⟩) W8))),by simp only [Vl.nr]⟩
  | item hN j p hp hb hg=>
   obtain ⟨η,he⟩:=Zu (nm:=nm) (nv:=nv) n z zH hS hp hb hg
   exact ⟨η,aq (u6 n z hn hS hN) (cA he),by simp only [Vl.nr]⟩
  | tgt hN hI hb=>
   obtain ⟨a3,a4,a5,h3⟩:=Dj (nm:=nm) (nv:=nv) n z zH hS hI
   have ht:=M9 (S:=S) n z hn zH a3 a4 a5 (S':=S++[.ins "Web" [] []]) p1
   rw [hb] at ht
   exact ⟨_,aq (u6 n z hn hS hN) (aq h3 (cA (cQ _ ht (cA (x_raise (W9 aj) (eG (n+2))))))),by simp only [Vl.nr]⟩
  | many hN hI hT h6=>
   obtain ⟨a3,a4,a5,h3⟩:=Dj (nm:=nm) (nv:=nv) n z zH hS hI
   have ht:=M9 (S:=S) n z hn zH a3 a4 a5 (S':=S++[.ins "Web" [] []]) p1
   rw [hT] at ht
   by_cases n6:6<nm.length
   ·exact ⟨_,aq (u6 n z hn hS hN) (aq h3 (aq (bD _ ht aM) (cA (cQ _ (Ra (aK (dG (v_var rfl) (hnl _)) aj (congrArg some (decide_eq_true (by omega))))) (cA (x_raise aj (eG (n+2)))))))),by simp only [Vl.nr]⟩
   ·exact ⟨_,aq (u6 n z hn hS hN) (aq h3 (aq (bD _ ht aM) (cA (cQ _ (uE (aK (dG (v_var rfl) (hnl _)) aj (congrArg some (decide_eq_false (by omega)))) (aK (dG (v_var rfl) (Rw _)) aj (congrArg some (decide_eq_true (by omega))))) (cA (x_raise aj (eG (n+2)))))))),by simp only [Vl.nr]⟩
  | met hN hI hT hf h2 hm=>
   obtain ⟨a3,a4,a5,h3⟩:=Dj (nm:=nm) (nv:=nv) n z zH hS hI
   have ht:=M9 (S:=S) n z hn zH a3 a4 a5 (S':=S++[.ins "Web" [] []]) p1
   rw [hT] at ht
   have h6:=hf.n6
   exact ⟨_,aq (u6 n z hn hS hN) (aq h3 (aq (bD _ ht aM) (aq (bD _ (uE (aK (dG (v_var rfl) (hnl _)) aj (congrArg some (decide_eq_false (by omega)))) (aK (dG (v_var rfl) (Rw _)) aj (congrArg some (decide_eq_false (by omega))))) aM) (aq (bz _ _ (bJ (aa (v_var rfl) (aa (v_var rfl) az)) (afs (n+1) hf hn.up zH.up W8)) rfl) (cA (cQ _ (aK (dG (v_var rfl) (mJ _ _)) (dG (v_var rfl) (Rw _)) (congrArg some (decide_eq_true (by rw [List.length_map];omega)))) (cA (x_raise aj (eG (n+2)))))))))),by simp only [Vl.nr]⟩
 obtain ⟨η,he,hx⟩:=key
 exact abi (T:=[]) rfl (by rw [List.append_nil];exact he) hS (by simp [Ob.nr,dH]) (fun ns vs e=>by cases e;simp [dH,hx])
end K04
namespace K04
open PySem L2 Oz
def lk:dh→Str→Option Int
 | [],_=>none
 | p::l,z=>if p.1=z then some p.2 else lk l z
theorem Xf (z:Str):∀ ld:dh,cG (ld.map fun p=>(Sum.inr p.1:Key)) (ld.map fun p=>Vl.int p.2) (Sum.inr z)=(lk ld z).map Vl.int
 | []=>rfl
 | p::ld=>by
  simp only [List.map_cons,cG,lk]
  by_cases c:p.1=z
  ·rw [if_pos (by rw [c]),if_pos c];rfl
  ·rw [if_neg (fun q=>c (Sum.inr.inj q)),if_neg c,Xf z ld]
theorem WP {p:Str × Int}:∀ {ld:dh},(ld.map (·.1)).Nodup→p∈ld→lk ld p.1=some p.2
 | [],_,h=>by cases h
 | q::ld,nd,h=>by
  simp only [List.map_cons,List.nodup_cons] at nd
  simp only [lk]
  rcases List.mem_cons.mp h with e | h
  ·subst e;rw [if_pos rfl]
  ·rw [if_neg fun e=>nd.1 (by rw [e];exact List.mem_map.mpr ⟨p,h,rfl⟩)]
   exact WP nd.2 h
def rv (ld:dh) (it:Its):Vl:=.tup [.lst (valN ld),.lst (aY it)]
theorem aaw (ld:dh) (it:Its):(rv ld it).nr=true:=by simp only [rv,Vl.nr,dH,LR,rP,Bool.and_self]
end K04
namespace K04
open PySem L2 Oz
theorem vI {S T:Hs} {r:Nat} {o:Ob} (h:S[r]? =some o):(S++T)[r]? =some o:=by
 rw [List.getElem?_append_left (List.getElem?_eq_some_iff.mp h).1];exact h
theorem aci {S:Hs} {v:Vl} {f:List Int} {t:Int} (h:cV S v=some (f.map .int)) (hd:aX S v=none) (hv:∀ y,v≠.str y):lU S (.int t) v=some (decide (t∈f)):=by
 have hf:(f.map Vl.int).all Vl.flat=true:=List.all_eq_true.mpr fun x hx=>by
  obtain ⟨y,_,rfl⟩:=List.mem_map.mp hx
  rfl
 have ha:((f.map Vl.int).any fun z=>eqF z (.int t))=decide (t∈f):=by
  clear h hf
  induction f with
  | nil=>simp
  | cons y f ih=>
   rw [List.map_cons,List.any_cons,ih]
   simp only [eqF]
   by_cases c:y=t
   ·subst c;simp
   ·simp [c,Ne.symm c]
 unfold lU
 split
 ·rename_i z
  exact absurd rfl (hv z)
 ·rw [hd]
  simp only [h]
  rw [hf]
  simp only [Vl.flat,Bool.and_self,if_true,ha]
theorem Wu {u:Int}:∀ {F:List Int} {vs:List Vl},F.length=vs.length→u∈F→cG (F.map (Sum.inl:Int→Key)) vs (Sum.inl u)=vs[F.idxOf u]?
 | [],_,_,h=>by cases h
 | x::F,[],h,_=>by simp at h
 | x::F,v::vs,h,hu=>by
  simp only [List.map_cons,cG]
  by_cases c:x=u
  ·subst c;rw [if_pos rfl];simp
  ·have e3:(x::F).idxOf u=F.idxOf u+1:=by simp only [List.idxOf_cons,beq_eq_false_iff_ne.mpr c,cond_false]
   rw [if_neg (fun z=>c (Sum.inl.inj z)),e3,List.getElem?_cons_succ]
   exact Wu (by simpa using h) ((List.mem_cons.mp hu).resolve_left fun e=>c e.symm)
def Cy (vs:List Vl):Ob:=.dct ((dJ vs.length).map Sum.inl) vs
def Bp (nm:dh):Ob:=.dct (nm.map fun p=>Sum.inr p.1) (nm.map fun p=>.int p.2)
theorem afr {S:Hs} {v:Vl} {vs:List Vl} {x:Int} (h:aX S v=some ((dJ vs.length).map Sum.inl,vs)) (hx:Uc vs.length x):dM S v (.int x)=vs[(x - 1).toNat]? :=by
 rw [Ux h,Wu (oG _) (xQ.mpr hx)]
 have:(dJ vs.length)[(x - 1).toNat]? =some x:=by
  have:=hx.1
  have:=hx.2
  rw [Dg (by omega)]
  congr 1
  omega
 rw [Oc (Uu _) this]
theorem ae9 {S:Hs} {v:Vl} {nm:dh} {p:Str × Int} (h:aX S v=some (nm.map fun p=>Sum.inr p.1,nm.map fun p=>.int p.2)) (nd:(nm.map (·.1)).Nodup) (hp:p∈nm):dM S v (.str p.1)=some (.int p.2):=by
 rw [adh h,Xf,WP nd hp];rfl
theorem Wy {S:Hs} {v:Vl} {nm:dh} (h:aX S v=some (nm.map fun p=>Sum.inr p.1,nm.map fun p=>.int p.2)) (hl:nm.length<64):Gq S v=some (((bK nm).map (·.1)).map .str):=by
 have ak:∀ nm:dh,Py (nm.map fun p=>(Sum.inr p.1:Key))=some (nm.map (·.1)):=fun nm=>by
  induction nm with
  | nil=>rfl
  | cons p nm ih=>simp only [List.map_cons,Py,ih,Option.map_some]
 unfold Gq
 rw [h]
 simp only [ak]
 rw [if_pos (by rw [List.length_map];exact (Nat.le_trans (Nat.le_of_lt hl) (by decide)))]
 congr 2
 exact (BW (fun p:Str × Int=>p.1) nm).symm
theorem afn {M:aF} {η:Sg} {S:Hs} {f:List Int} {e:E} {t:Int} (h2:η[2]? =some (some (.ref S.length))) (he:ev M e η (S++[.lst (f.map .int)])=.ok (.int t) (S++[.lst (f.map .int)])) (hl:f.length≤1000) :
  exec M (.cons (.ite (.band (.cmp .Gt e (.cst (.int 0))) (.cmp .NotIn e (.var 2))) (.cons (.ex (.mut .append (.var 2) (.cons e .nil))) .nil) .nil) .nil) η (S++[.lst (f.map .int)])=.nx η (S++[.lst ((gM f t).map .int)]):=by
 have mem:cmpop .NotIn (S++[.lst (f.map .int)]) (.int t) (.ref S.length)=some (!decide (t∈f)):=by
  simp only [cmpop]
  rw [aci (f:=f) (by simp only [cV,List.getElem?_concat_length]) (by simp only [aX,List.getElem?_concat_length]) (by intro y z;cases z)]
  rfl
 by_cases c:0<t
 ·by_cases d:t∈f
  ·rw [decide_eq_true d] at mem
   rw [show gM f t=f from if_neg fun z=>z.2 d]
   exact aq (bD _ (oW (aK he aj (congrArg some (decide_eq_true c))) (aK he (v_var h2) mem)) aM) aM
  ·rw [decide_eq_false d] at mem
   rw [show gM f t=f++[t] from if_pos ⟨c,d⟩]
   refine aq (cQ _ (oW (aK he aj (congrArg some (decide_eq_true c))) (aK he (v_var h2) mem)) (aq (NT _ _ (BR (k:=S.length) (ys:=f.map .int) (v_var h2) (jo _ _) (aa he az) List.getElem?_concat_length (lw (by rw [List.length_map];omega)))) aM)) ?_
   rw [iU,List.map_append]
   exact aM
 ·rw [show gM f t=f from if_neg fun z=>c z.1]
  exact aq (bD _ (wO (aK he aj (congrArg some (decide_eq_false c)))) aM) aM
theorem aew (n:Nat) {nm:dh} {it:Its} (h:Sv nm it) {S:Hs} {v1 v2:Vl} (hS:NR S) (d1:∀ T,aX (S++T) v1=some (nm.map fun p=>Sum.inr p.1,nm.map fun p=>.int p.2)) (d2:∀ T,aX (S++T) v2=some ((dJ (aY it).length).map Sum.inl,aY it)) (hln:∀ T,gY .len (S++T) v2=some (.int it.length)):(Mn (n+1)).cal "_law_met" [v1,v2] S=.ok (.frs (.lst ((ord nm it).map .int))) S:=by
 rw [abZ]
 have n6:=h.n6
 have i6:=h.i6
 have names:∃ a3,forL (fun η1 S2=>exec (Mn n) Mj η1 S2) (.nm 3) [] (((bK nm).map (·.1)).map .str) [some v1,some v2,some (.ref S.length),none,none,none] (S++[.lst (([]:List Int).map .int)])
   =.nx [some v1,some v2,some (.ref S.length),a3,none,none] (S++[.lst ((push [] ((bK nm).map (·.2))).map .int)]):=by
  obtain ⟨η',S',g1,a3,e1,e2⟩:=gW (body:=fun η1 S2=>exec (Mn n) Mj η1 S2) (t:=.nm 3) (lk:=[]) (xs:=((bK nm).map (·.1)).map .str) (η:=[some v1,some v2,some (.ref S.length),none,none,none]) (S:=S++[.lst (([]:List Int).map .int)])
   (fun i η S'=>∃ a3,η=[some v1,some v2,some (.ref S.length),a3,none,none]∧S'=S++[.lst ((push [] (((bK nm).map (·.2)).take i)).map .int)])
   ⟨none,rfl,rfl⟩ (fun i η S' _=>aU _) fun i x η S' hx ⟨a3,e1,e2⟩=>by
    subst e1 e2
    rw [List.getElem?_map,List.getElem?_map] at hx
    obtain ⟨z,hz,rfl⟩:=Option.map_eq_some_iff.mp hx
    obtain ⟨p,hp,rfl⟩:=Option.map_eq_some_iff.mp hz
    have zG:((bK nm).map (·.2))[i]? =some p.2:=by rw [List.getElem?_map,hp];rfl
    have Ut:=(bZ nm).mem_iff.mp (List.mem_of_getElem? hp)
    have q:=yz (f:=[]) (ts:=((bK nm).map (·.2)).take i)
    have q3:=List.length_take_le' i ((bK nm).map (·.2))
    rw [List.length_map,(bZ nm).length_eq] at q3
    refine ⟨_,rfl,_,_,.inl (afn (t:=p.2) rfl (dw (v_var rfl) (v_var rfl) (ae9 (d1 _) h.nd Ut)) (by simp only [List.length_nil] at q;omega)),_,rfl,?_⟩
    rw [cO zG,mY]
  subst e1
  rw [List.take_of_length_le (by rw [List.length_map,List.length_map,List.length_map];exact Nat.le_refl _)] at e2
  subst e2
  exact ⟨a3,g1⟩
 obtain ⟨a3,hnm⟩:=names
 have pts:∃ a4 a5,forL (fun η1 S2=>exec (Mn n) MN η1 S2) (.nm 4) [] (jd 0 it.length) [some v1,some v2,some (.ref S.length),a3,none,none] (S++[.lst ((push [] ((bK nm).map (·.2))).map .int)])
   =.nx [some v1,some v2,some (.ref S.length),a3,a4,a5] (S++[.lst ((ord nm it).map .int)]):=by
  obtain ⟨η',S',g1,a4,a5,f,e1,e2,e3⟩:=gW (body:=fun η1 S2=>exec (Mn n) MN η1 S2) (t:=.nm 4) (lk:=[]) (xs:=jd 0 it.length) (η:=[some v1,some v2,some (.ref S.length),a3,none,none]) (S:=S++[.lst ((push [] ((bK nm).map (·.2))).map .int)])
   (fun i η S'=>∃ a4 a5 f,η=[some v1,some v2,some (.ref S.length),a3,a4,a5]∧S'=S++[.lst (f.map .int)]∧vM (fG it) (it.length - i) i f=ord nm it)
   ⟨none,none,_,rfl,rfl,rfl⟩ (fun i η S' _=>aU _) fun i x η S' hx ⟨a4,a5,f,e1,e2,e3⟩=>by
    subst e1 e2
    obtain ⟨hi,rfl⟩:=qI hx
    have pre:f<+:ord nm it:=by rw [← e3];exact kE
    have hfl:=pre.length_le
    have hol:=rG h
    have nU:gY .len (S++[.lst (f.map .int)]) (.ref S.length)=some (.int f.length):=by
     simp only [gY,aX,cV,List.getElem?_concat_length,Option.map_some,List.length_map]
    have hd:it.length - i=(it.length - (i+1))+1:=by omega
    rw [hd] at e3
    unfold vM at e3
    by_cases c:i<f.length
    ·have hx:f[i]? =some f[i]:=List.getElem?_eq_getElem c
     rw [hx] at e3
     simp only at e3
     have aaD:=rA h f[i] (pre.subset (List.getElem_mem c))
     obtain ⟨p,hp,hnx,_⟩:=Ds aaD
     rw [hnx] at e3
     have Ut:=List.mem_of_getElem? hp
     have ix1:dM (S++[.lst (f.map .int)]) (.ref S.length) (.int i)=some (.int f[i]):=by
      show (match aX (S++[.lst (f.map .int)]) (.ref S.length) with | some (ks,vs)=>_ | none=>_)=_
      simp only [aX,cV,List.getElem?_concat_length]
      exact jE (S:=[]) (by rw [List.getElem?_map,hx];rfl)
     have ix2:dM (S++[.lst (f.map .int)]) v2 (.int f[i])=some (.tup [.str p.1,.tup (p.2.map .int)]):=by
      rw [afr (d2 _) (by rw [fQ];exact aaD)]
      exact pM hp
     have inner:∃ b5,forL (fun η1 S2=>exec (Mn n) Ls η1 S2) (.nm 5) [] (p.2.map .int) [some v1,some v2,some (.ref S.length),a3,some (.int i),a5] (S++[.lst (f.map .int)])=.nx [some v1,some v2,some (.ref S.length),a3,some (.int i),b5] (S++[.lst ((push f p.2).map .int)]):=by
      obtain ⟨η',S',g1,b5,e1,e2⟩:=gW (body:=fun η1 S2=>exec (Mn n) Ls η1 S2) (t:=.nm 5) (lk:=[]) (xs:=p.2.map .int) (η:=[some v1,some v2,some (.ref S.length),a3,some (.int i),a5]) (S:=S++[.lst (f.map .int)])
       (fun j η S'=>∃ b5,η=[some v1,some v2,some (.ref S.length),a3,some (.int i),b5]∧S'=S++[.lst ((push f (p.2.take j)).map .int)])
       ⟨a5,rfl,rfl⟩ (fun j η S' _=>aU _) fun j x η S' hx ⟨b5,e1,e2⟩=>by
        subst e1 e2
        rw [List.getElem?_map] at hx
        obtain ⟨t,ht,rfl⟩:=Option.map_eq_some_iff.mp hx
        have q:=yz (f:=f) (ts:=p.2.take j)
        have q3:=List.length_take_le' j p.2
        have:=h.h2 p Ut
        refine ⟨_,rfl,_,_,.inl (afn (t:=t) rfl (v_var rfl) (by omega)),_,rfl,?_⟩
        rw [cO ht,mY]
      subst e1
      rw [List.take_of_length_le (by rw [List.length_map];exact Nat.le_refl _)] at e2
      subst e2
      exact ⟨b5,g1⟩
     obtain ⟨b5,hin⟩:=inner
     exact ⟨_,rfl,_,_,.inl (aq (cQ _ (aK (v_var rfl) (dG (v_var rfl) nU) (congrArg some (decide_eq_true (by omega)))) (aq (jJ _ _ _ (iG (dw (dw (v_var rfl) (dw (v_var rfl) (v_var rfl) ix1) ix2) aj (ix_tup (i:=1) rfl)) rfl) hin) aM)) aM),_,_,_,rfl,rfl,e3⟩
    ·have en:f[i]? =none:=List.getElem?_eq_none (by omega)
     rw [en] at e3
     simp only at e3
     refine ⟨_,rfl,_,_,.inl (aq (bD _ (aK (v_var rfl) (dG (v_var rfl) nU) (congrArg some (decide_eq_false (by omega)))) aM) aM),_,_,f,rfl,rfl,?_⟩
     rw [← e3]
     cases it.length - (i+1) with
     | zero=>rfl
     | succ d=>
      unfold vM
      rw [List.getElem?_eq_none (by omega)]
  subst e1 e2
  rw [gU,Nat.sub_self] at e3
  have ef:f=ord nm it:=e3
  subst ef
  exact ⟨a4,a5,g1⟩
 obtain ⟨a4,a5,hp⟩:=pts
 refine vB (T:=[.lst ((ord nm it).map .int)]) (r:=0) rfl ?_ hS rfl (by simp only [Ob.nr,dU])
 show exec (Mn n) Zm [some v1,some v2,none,none,none,none] S=_
 exact aq (bz _ _ (nY (lK az (show 0≤1000000 by decide))) rfl) (aq (jJ _ _ _ (iG (du (Td (v_var rfl) (Wy (d1 _) (by omega)))) rfl) hnm) (aq (jJ _ _ _ (mD (dG (v_var rfl) (hln _)) (by omega)) hp) (bF (dI _ _ (v_var rfl)))))
theorem ahM (n:Nat) {nm:dh} {it:Its} (h:Sv nm it) {S:Hs} {r1 r2:Nat} (hS:NR S) (h1:S[r1]? =some (Bp nm)) (h2:S[r2]? =some (Cy (aY it))):(Mn (n+1)).cal "_law_met" [.ref r1,.ref r2] S=.ok (.frs (.lst ((ord nm it).map .int))) S:=
 aew n h hS (fun T=>by simp only [aX,vI h1,Bp]) (fun T=>by simp only [aX,vI h2,Cy]) fun T=>by simp only [gY,aX,vI h2,Cy,List.length_map,oG,fQ]
def base (u:Int):Option Int:=if u= -1 then some (-1) else if u=0 then some 0 else none
def Bw (F:List Int) (i:Nat) (u:Int):Option Int:=if u∈F.take i then some ((F.idxOf u:Int)+1) else base u
theorem X6 {F:List Int} (pos:∀ x∈F,0<x) {t:Int} (h: -1≤t) (k:0<t→t∈F):Bw F F.length t=some (anew F t):=by
 unfold Bw anew base
 rw [List.take_length]
 by_cases c:0<t
 ·rw [if_pos (k c),if_pos c]
 ·rw [if_neg (fun z=>c (pos t z)),if_neg c]
  by_cases d:t= -1
  ·rw [if_pos d,d]
  ·rw [if_neg d,if_pos (show t=0 by omega),show t=0 by omega]
theorem Tj {F:List Int} (nd:F.Nodup) {i:Nat} {x:Int} (e:F[i]? =some x) (u:Int):(if u=x then some ((i:Int)+1) else Bw F i u)=Bw F (i+1) u:=by
 unfold Bw
 rw [cO e]
 by_cases c:u=x
 ·subst c
  rw [if_pos rfl,if_pos (by simp),Oc nd e]
 ·rw [if_neg c]
  by_cases d:u∈F.take i
  ·rw [if_pos d,if_pos (List.mem_append_left _ d)]
  ·rw [if_neg d,if_neg (by simp [d,c])]
theorem ad6:Dm (putD [Sum.inl 0] [.int 0] (Sum.inl (-1)) (.int (-1))).1 (putD [Sum.inl 0] [.int 0] (Sum.inl (-1)) (.int (-1))).2 base:=by
 have h0:Dm [Sum.inl 0] [.int 0] fun u=>if u=0 then some 0 else none:=⟨rfl,by simp [dH,Vl.nr],fun t=>by
  simp only [cG]
  by_cases c:t=0
  ·subst c;simp
  ·have:¬ (Sum.inl 0:Key)=Sum.inl t:=fun z=>c (Sum.inl.inj z).symm
   simp [c,this]⟩
 exact (h0.put (-1) (-1)).congr fun t=>rfl
def fNm (nm:dh) (o:List Int) (v:Vl):Vl:=match v with
 | .str z=>.tup [.str z,.int (anew o ((lk nm z).getD 0))]
 | _=>.non
theorem aeq (n:Nat) {nm:dh} {it:Its} (h:Sv nm it) {S:Hs} {r1 r2:Nat} (hS:NR S) (h1:S[r1]? =some (Bp nm)) (h2:S[r2]? =some (Cy (aY it))):(Mn (n+2)).cal "_law_canon" [.ref r1,.ref r2] S=.ok (.val (rv (eO nm it) (iT nm it))) S:=by
 rw [Q9]
 have n6:=h.n6
 have i6:=h.i6
 have hol:=rG h
 obtain ⟨c1,c2⟩:=NZ h
 have pos:∀ x∈ord nm it,0<x:=fun x hx=>by have:=(rA h x hx).1;omega
 have d1:∀ T,aX (S++T) (.ref r1)=some (nm.map fun p=>Sum.inr p.1,nm.map fun p=>.int p.2):=fun T=>by simp only [aX,vI h1,Bp]
 have d2:∀ T,aX (S++T) (.ref r2)=some ((dJ (aY it).length).map Sum.inl,aY it):=fun T=>by simp only [aX,vI h2,Cy]
 have loop:∃ a4 ks vs,forL (fun η1 S2=>exec (Mn (n+1)) Bg η1 S2) (.nm 4) [] (jd 0 (ord nm it).length) [some (.ref r1),some (.ref r2),some (.lst ((ord nm it).map .int)),some (.ref S.length),none,none,none,none,none] (S++[.dct (putD [Sum.inl 0] [.int 0] (Sum.inl (-1)) (.int (-1))).1 (putD [Sum.inl 0] [.int 0] (Sum.inl (-1)) (.int (-1))).2])
   =.nx [some (.ref r1),some (.ref r2),some (.lst ((ord nm it).map .int)),some (.ref S.length),a4,none,none,none,none] (S++[.dct ks vs])∧Dm ks vs (Bw (ord nm it) (ord nm it).length):=by
  obtain ⟨η',S',g1,a4,ks,vs,e1,e2,e3,e4⟩:=gW (body:=fun η1 S2=>exec (Mn (n+1)) Bg η1 S2) (t:=.nm 4) (lk:=[]) (xs:=jd 0 (ord nm it).length) (η:=[some (.ref r1),some (.ref r2),some (.lst ((ord nm it).map .int)),some (.ref S.length),none,none,none,none,none]) (S:=S++[.dct (putD [Sum.inl 0] [.int 0] (Sum.inl (-1)) (.int (-1))).1 (putD [Sum.inl 0] [.int 0] (Sum.inl (-1)) (.int (-1))).2])
   (fun i η S'=>∃ a4 ks vs,η=[some (.ref r1),some (.ref r2),some (.lst ((ord nm it).map .int)),some (.ref S.length),a4,none,none,none,none]∧S'=S++[.dct ks vs]∧Dm ks vs (Bw (ord nm it) i)∧ks.length≤2+i)
   ⟨none,_,_,rfl,rfl,ad6.congr fun t=>by unfold Bw;rw [List.take_zero,if_neg (by simp)],by decide⟩ (fun i η S' _=>aU _) fun i x η S' hx ⟨a4,ks,vs,e1,e2,e3,e4⟩=>by
    subst e1 e2
    obtain ⟨hi,rfl⟩:=qI hx
    have hxo:(ord nm it)[i]? =some (ord nm it)[i]:=List.getElem?_eq_getElem hi
    have aon:=(M7 (k:=Sum.inl (ord nm it)[i]) (y:=.int ((i:Int)+1)) e3.1).2
    refine ⟨_,rfl,_,_,.inl (aq (qK (aW (v_var rfl) aj (fj _ _)) (v_var rfl) (dw (v_var rfl) (v_var rfl) (jE (by rw [List.getElem?_map,hxo];rfl))) (jF (kk:=Sum.inl (ord nm it)[i]) List.getElem?_concat_length rfl (by omega))) aM),_,_,_,rfl,by rw [iU],(e3.put _ _).congr (Tj GJ hxo),by omega⟩
  subst e1 e2
  rw [gU] at e3
  exact ⟨a4,ks,vs,g1,e3⟩
 obtain ⟨a4,ks,vs,hlp,hD⟩:=loop
 have ixA:∀ (T:Hs) (t:Int),-1≤t→(0<t→t∈ord nm it)→dM (S++[.dct ks vs]++T) (.ref S.length) (.int t)=some (.int (anew (ord nm it) t)):=fun T t g1 g2=>by
  rw [Ux (ks:=ks) (vs:=vs) (by simp only [aX,vI List.getElem?_concat_length]),hD.2.2 t,X6 pos g1 g2];rfl
 have names:d9 (Mn (n+1)) z9 [some (.ref r1),some (.ref r2),some (.lst ((ord nm it).map .int)),some (.ref S.length),a4,none,none,none,none] (S++[.dct ks vs])=.ok (.lst (valN (eO nm it))) (S++[.dct ks vs]):=by
  unfold z9
  have e0:valN (eO nm it)=(((bK nm).map (·.1)).map Vl.str).map (fNm nm (ord nm it)):=by
   unfold valN eO
   rw [List.map_map,List.map_map,List.map_map]
   refine List.map_congr_left fun p hp=> ?_
   have:=WP h.nd ((bZ nm).mem_iff.mp hp)
   simp only [Function.comp,fNm,this,Option.getD_some]
  rw [e0]
  have alN:pH (Mn (n+1)) (.sq (.inl (.Yc (.var 0)))) [some (.ref r1),some (.ref r2),some (.lst ((ord nm it).map .int)),some (.ref S.length),a4,none,none,none,none] (S++[.dct ks vs])=.ok ([],((bK nm).map (·.1)).map .str) (S++[.dct ks vs]):=iG (du (Td (v_var rfl) (Wy (d1 _) (by omega)))) rfl
  refine fM [] (((bK nm).map (·.1)).map .str) (fNm nm (ord nm it)) alN (aU _) (by rw [List.length_map,List.length_map,(bZ nm).length_eq];omega) (fun x hx=>by
   obtain ⟨z,_,rfl⟩:=List.mem_map.mp hx
   simp only [fNm,Vl.nr,dH,Bool.and_self]) fun x hx aQ _=> ?_
  obtain ⟨z,hz,rfl⟩:=List.mem_map.mp hx
  obtain ⟨p,hp,rfl⟩:=List.mem_map.mp hz
  have Ut:=(bZ nm).mem_iff.mp hp
  refine ⟨_,rfl,?_⟩
  show ev _ _ _ _=.ok (.tup [.str p.1,.int (anew (ord nm it) ((lk nm p.1).getD 0))]) _
  rw [WP h.nd Ut,Option.getD_some]
  exact jg (aa (v_var rfl) (aa (dw (v_var rfl) (dw (v_var rfl) (v_var rfl) (by rw [List.append_assoc];exact ae9 (d1 _) h.nd Ut)) (ixA _ _ (h.ht p Ut).1 (c1 p Ut))) az)) (show 2≤1000000 by decide)
 have aaI:d9 (Mn (n+1)) Ad [some (.ref r1),some (.ref r2),some (.lst ((ord nm it).map .int)),some (.ref S.length),a4,some (.lst (valN (eO nm it))),none,none,none] (S++[.dct ks vs])=.ok (.lst (aY (iT nm it))) (S++[.dct ks vs]):=by
  rw [Kf]
  unfold Ad
  refine fM [] ((ord nm it).map .int) (QW it (ord nm it)) (iG (v_var rfl) rfl) (aU _) (by rw [List.length_map];omega) (fun x hx=>by
   obtain ⟨y,_,rfl⟩:=List.mem_map.mp hx
   simp only [QW,Vl.nr,dH,dU,Bool.and_self]) fun x hx aQ _=> ?_
  obtain ⟨y,hy,rfl⟩:=List.mem_map.mp hx
  have ZC:=rA h y hy
  obtain ⟨p,hp,hnx,hwo⟩:=Ds ZC
  have ixI:∀ T,dM (S++T) (.ref r2) (.int y)=some (.tup [.str p.1,.tup (p.2.map .int)]):=fun T=>by
   rw [afr (d2 _) (by rw [fQ];exact ZC)]
   exact pM hp
  refine ⟨_,rfl,?_⟩
  show ev _ _ _ _=.ok (.tup [.str (Um it y),.tup (((fG it y).map (anew (ord nm it))).map .int)]) _
  rw [hwo,hnx]
  refine jg (aa (dw (dw (v_var rfl) (v_var rfl) (by rw [List.append_assoc];exact ixI _)) aj (ix_tup (i:=0) rfl)) (aa (dG (du (o:=.lst ((p.2.map (anew (ord nm it))).map .int)) ?_) rfl) az)) (show 2≤1000000 by decide)
  unfold Ld
  have e:(p.2.map (anew (ord nm it))).map Vl.int=(p.2.map Vl.int).map (fun v=>match v with | .int t=>.int (anew (ord nm it) t) | _=>.non):=by
   rw [List.map_map,List.map_map];rfl
  rw [e]
  refine fM [] (p.2.map .int) _ (iG (dw (dw (v_var rfl) (v_var rfl) (by rw [List.append_assoc];exact ixI _)) aj (ix_tup (i:=1) rfl)) rfl) (aU _) (by rw [List.length_map];have:=h.h2 p (List.mem_of_getElem? hp);omega) (fun x hx=>by
   obtain ⟨t,_,rfl⟩:=List.mem_map.mp hx
   simp only [Vl.nr]) fun x hx abC _=> ?_
  obtain ⟨t,ht,rfl⟩:=List.mem_map.mp hx
  refine ⟨_,rfl,dw (v_var rfl) (v_var rfl) ?_⟩
  have ht':t∈fG it y:=by rw [hnx];exact ht
  have:=ixA ([.lst aQ]++[.lst abC]) t (QX h y t ht').1 (c2 y hy t ht')
  rw [← List.append_assoc] at this
  exact this
 refine cY (T:=[.dct ks vs]) rfl ?_ hS (aaw _ _)
 show exec (Mn (n+1)) Ql [some (.ref r1),some (.ref r2),none,none,none,none,none,none,none] S=_
 have hd:d9 (Mn (n+1)) (.zq [Sum.inl 0] (.cons (.cst (.int 0)) .nil)) [some (.ref r1),some (.ref r2),some (.lst ((ord nm it).map .int)),none,none,none,none,none,none] S=.ok (.dct [Sum.inl 0] [.int 0]) S:=
  aaC (aa aj az) (by simp [dH,Vl.nr]) (by decide) rfl (by decide)
 refine aq (bz _ _ (bJ (aa (v_var rfl) (aa (v_var rfl) az)) (ahM n h hS h1 h2)) rfl) (aq (bz _ _ (nY hd) rfl) (aq (qK (aW aj aj (show binop .Sub (.int 0) (.int 1)=some (.int (-1)) from rfl)) (v_var rfl) (aW aj aj (show binop .Sub (.int 0) (.int 1)=some (.int (-1)) from rfl)) (jF (kk:=Sum.inl (-1)) List.getElem?_concat_length rfl (show 1≤1000000 by decide))) ?_))
 rw [iU]
 exact aq (jJ _ _ _ (mD (dG (v_var rfl) (by rw [Rv.v,Ob.inl,mJ,List.length_map])) (by omega)) hlp) (aq (bz _ _ (du names) rfl) (bF (dI _ _ (jg (aa (v_var rfl) (aa (du aaI) az)) (show 2≤1000000 by decide)))))
end K04
namespace K04
open PySem L2 Oz
def itV (p:Str × List Int):Vl:=.tup [.str p.1,.tup (p.2.map .int)]
theorem Yo (n:Nat):dJ (n+1)=dJ n++[(n:Int)+1]:=by
 unfold dJ
 rw [List.range_succ,List.map_append];rfl
theorem aeD {n:Nat} {vs:List Vl} {y:Vl}:putD ((dJ n).map (Sum.inl:Int→Key)) vs (Sum.inl ((n:Int)+1)) y=((dJ (n+1)).map Sum.inl,vs++[y]):=by
 rw [tZ (fun h=>by
  obtain ⟨x,hx,e⟩:=List.mem_map.mp h
  have:=xQ.mp hx
  have:=Sum.inl.inj e
  omega),Yo,List.map_append];rfl
theorem XQ (it:Its) (p:Str × List Int):aY (it++[p])=aY it++[itV p]:=by
 unfold aY
 rw [List.map_append];rfl
end K04
namespace K04
open PySem L2 Oz
def cT (b:Int) (n:Nat):Int:=if b%2=0 then 1 else (n:Int) - 1
def gT (b:Int) (n:Nat) (x:Int):Int:=if 0<x then 1+((x - 1)* cT b n+b)%(n:Int) else x
def gF (c:Int) (n s:Nat) (x:Int):Int:=if 0<x then 1+((x - 1)* c+(s:Int))%(n:Int) else x
def mTn (b:Int) (n i:Nat) (u:Int):Option Int:=if 1≤u∧u≤i then some (gT b n u) else base u
theorem ajS {α:Type} (xs:List α) (c:Nat):uo xs (some (c:Int)) none=xs.drop c:=by
 unfold uo
 rw [HT.sIx_none,HT.sIx_nat]
 by_cases h:c≤xs.length
 ·rw [Nat.min_eq_left h,List.take_of_length_le (by simp)]
 ·rw [Nat.min_eq_right (by omega),List.drop_length,List.drop_of_length_le (by omega)]
  simp
theorem afi {α:Type} (xs:List α) (c:Nat):uo xs none (some (c:Int))=xs.take c:=by
 unfold uo
 rw [HT.sIx_none,HT.sIx_nat]
 simp only [List.drop_zero,Nat.sub_zero]
 by_cases h:c≤xs.length
 ·rw [Nat.min_eq_left h]
 ·rw [Nat.min_eq_right (by omega),List.take_length,List.take_of_length_le (by omega)]
end K04
namespace K04
open PySem L2 Oz
def Sm (b:Nat) (z:Str):Prop:=z.length≤b∧∀ c∈z.cps.toList,c<0x110000
theorem Vn (x y:Str):(x++y).cps.toList=x.cps.toList++y.cps.toList:=by
 show (x.cps++y.cps).toList=_
 simp
theorem Sm.app {a b:Nat} {x y:Str} (h:Sm a x) (k:Sm b y):Sm (a+b) (x++y):=by
 refine ⟨?_,fun c hc=> ?_⟩
 ·show (x++y).cps.toList.length≤_
  rw [Vn,List.length_append]
  have h1:x.cps.toList.length≤a:=h.1
  have h2:y.cps.toList.length≤b:=k.1
  omega
 ·rw [Vn] at hc
  exact (List.mem_append.mp hc).elim (h.2 c) (k.2 c)
theorem Sm.le {a b:Nat} {x:Str} (h:Sm a x) (l:a≤b):Sm b x:=⟨Nat.le_trans h.1 l,h.2⟩
theorem yH.sm {z:Str} (h:yH z):Sm 6 z:=⟨h.hi,fun c hc=>by
 have:∀ c∈abc.cps.toList,c<0x110000:=by decide
 exact this c (h.al c hc)⟩
theorem W7 {z:Str} (h:∀ c∈z.cps.toList,c<0x110000):PyData.strOk z=true:=by
 unfold PyData.strOk
 rw [← Array.all_toList]
 exact List.all_eq_true.mpr fun c hc=>decide_eq_true (h c hc)
structure Item (many:Nat) (p:Str × List Int):Prop where
 w:Sm 8 p.1
 l:p.2.length≤2
 t:∀ t∈p.2,-1≤t∧t≤many
 k:nD p.1 p.2=true
theorem xK {w:Str} {ts us:List Int} (h:ts.length=us.length):nD w ts=nD w us:=by unfold nD;rw [h]
structure Raw (ld:dh) (it:Its):Prop where
 fit:Sv ld it
 hw:∀ p∈ld,yH p.1
 hi:∀ p∈it,Item it.length p
section
variable {S T:Hs} {o o' p:Ob}
theorem gA:(S++o::T)[S.length]? =some o:=by simp
theorem sA:(S++o::T).set S.length o'=S++o'::T:=by simp
theorem aA:S++o::T++[p]=S++o::(T++[p]):=by simp
theorem lA:(S++o::T).length=S.length+1+T.length:=by simp;omega
theorem gB:(S++o::(T++[p]))[S.length+1+T.length]? =some p:=by
 rw [show S++o::(T++[p])=(S++o::T)++[p] by simp,← lA (S:=S) (T:=T) (o:=o)]
 exact List.getElem?_concat_length
theorem sB:(S++o::(T++[p])).set (S.length+1+T.length) o'=S++o::(T++[o']):=by
 rw [show S++o::(T++[p])=(S++o::T)++[p] by simp,← lA (S:=S) (T:=T) (o:=o),iU]
 simp
theorem nA (hS:NR S) (ho:o.nr=true) (hT:NR T):NR (S++o::T):=by
 have:S++o::T=S++[o]++T:=by simp
 rw [this]
 exact (hS.one ho).app hT
end
def uF:Vl:=.lst [.tup [.str "list",.int 0],.tup [.str "seg",.int 1],.tup [.str "dl",.int 2]]
abbrev sr (ns:List Int) (k many size lean turning:Nat) (fs:List Str) (r:Nat) (i:Option Vl) (a11 a12 a13 a14 a15 a16 Uz Kw HD Gv:Option Vl):Sg:=
 [some (zs ns),some (.int k),some uF,some (.int 13),some (.int many),some (.int size),some (.int lean),some (.int turning),some (.lst (fs.map .str)),some (.ref r),i,a11,a12,a13,a14,a15,a16,Uz,Kw,HD,Gv]
abbrev Q3 (n:Nat) (x:Int):Prop:= -1≤x∧x≤n
theorem aip {n:Nat} {x y v d:Int} (hx:Q3 n x) (hy:Q3 n y) (hv:Q3 n v) (hd:0≤d):∃ x' y',Q3 n x'∧Q3 n y'∧∃ j:Nat,d%2=j∧j<2∧([Vl.int x,.int y]:List Vl).set j (.int v)=[.int x',.int y']:=by
 have h0:=Int.emod_nonneg d (show (2:Int)≠0 by omega)
 have h1:=Int.emod_lt_of_pos d (show (0:Int)<2 by omega)
 have:d%2=0∨d%2=1:=by omega
 rcases this with e | e
 ·exact ⟨v,y,hv,hy,0,e,by omega,rfl⟩
 ·exact ⟨x,v,hx,hv,1,e,by omega,rfl⟩
theorem RG {a:Int} {n:Nat}:Q3 n (a%((n:Int)+1)):=by
 have h0:=Int.emod_nonneg a (show ((n:Int)+1)≠0 by omega)
 have h1:=Int.emod_lt_of_pos a (show (0:Int)<(n:Int)+1 by omega)
 exact ⟨by omega,by omega⟩
theorem ZV (n:Nat) (ns:List Int) {k many size lean turning i:Nat} {fs:List Str} (hi:i<size) (h6:size≤13) {its:Its} (hl:its.length=i) {S T:Hs} (hS:NR S) (hT:NR T) (a11 a12 a13 a14 a15 a16 Uz Kw HD Gv:Option Vl) :
  ∃ b11 Ca BJ BZ HJ Ed EY T' p,NR T'∧Item size p∧exec (Mn (n+2)) Dc (sr ns k many size lean turning fs S.length (some (.int i)) a11 a12 a13 a14 a15 a16 Uz Kw HD Gv) (S++ .dct ((dJ i).map Sum.inl) (aY its)::T)
   =.nx (sr ns k many size lean turning fs S.length (some (.int i)) b11 Ca BJ BZ HJ Ed EY Kw HD Gv) (S++ .dct ((dJ (i+1)).map Sum.inl) (aY (its++[p]))::T'):=by
 have hN:NR (S++ .dct ((dJ i).map Sum.inl) (aY its)::T):=nA hS (by simp only [Ob.nr,rP]) hT
 obtain ⟨ds,hd,hc⟩:=tU n ns (k:=k+2+i) (sizes:=[5,60,60,12]) (by decide) (by decide) hN
 obtain ⟨w,l,r,far,rfl,hw,hlr,hrr,hfr⟩:=aad hd
 -- the word
 obtain ⟨z,pl,hz,⟨zG,hwo⟩,hev⟩:∃ z pl,Sm 8 z∧(pl≤2∧nD z (List.replicate pl 0)=true)∧∀ (Ca BJ BZ HJ Ed EY:Option Vl) (U:Hs),ev (Mn (n+2)) (.ite (.cmp .Lt (.var 11) (.b1 .len (.var 2))) (.idx (.var 2) (.var 11)) (.tup (.cons (.cst (.str "cell")) (.cons (.cst (.int 2)) .nil)))) (sr ns k many size lean turning fs S.length (some (.int i)) (some (.int w)) Ca BJ BZ HJ Ed EY Kw HD Gv) U=.ok (.tup [.str z,.int (pl:Nat)]) U:=by
  have ajR:w=0∨w=1∨w=2∨3≤w:=by omega
  rcases ajR with rfl | rfl | rfl | hw2
  ·exact ⟨"list",0,⟨by decide,by decide⟩,⟨by omega,by decide+kernel⟩,fun _ _ _ _ _ _ U=>lW (aK (v_var rfl) (dG (v_var rfl) rfl) rfl) (dw (v_var rfl) (v_var rfl) (jE (i:=0) rfl))⟩
  ·exact ⟨"seg",1,⟨by decide,by decide⟩,⟨by omega,by decide+kernel⟩,fun _ _ _ _ _ _ U=>lW (aK (v_var rfl) (dG (v_var rfl) rfl) rfl) (dw (v_var rfl) (v_var rfl) (jE (i:=1) rfl))⟩
  ·exact ⟨"dl",2,⟨by decide,by decide⟩,⟨by omega,by decide+kernel⟩,fun _ _ _ _ _ _ U=>lW (aK (v_var rfl) (dG (v_var rfl) rfl) rfl) (dw (v_var rfl) (v_var rfl) (jE (i:=2) rfl))⟩
  ·exact ⟨"cell",2,⟨by decide,by decide⟩,⟨by omega,by decide+kernel⟩,fun _ _ _ _ _ _ U=>qZ (aK (v_var rfl) (dG (v_var rfl) rfl) (show some (decide (w<((3:Nat):Int)))=some false from congrArg some (decide_eq_false (by omega)))) (jg (aa aj (aa aj az)) (show 2≤1000000 by decide))⟩
 -- the targets
 have t1:Q3 size (l%((size:Int)+1)):=RG
 have t2:Q3 size (r%((size:Int)+1)):=RG
 have c1:∃ x y,Q3 size x∧Q3 size y∧aP (Mn (n+2)) (.ite (.cmp .Eq (.var 14) (.cst (.int 0))) (.cons (.uP (.var 17) (.bin .Mod (.var 12) (.cst (.int 2))) (.bin .Sub (.cst (.int 0)) (.cst (.int 1)))) .nil) .nil) (sr ns k many size lean turning fs S.length (some (.int i)) (some (.int w)) (some (.int l)) (some (.int r)) (some (.int far)) (some (.str z)) (some (.int (pl:Nat))) (some (.ref (S.length+1+T.length))) Kw HD Gv) (S++ .dct ((dJ i).map Sum.inl) (aY its)::(T++[.lst [.int (l%((size:Int)+1)),.int (r%((size:Int)+1))]]))
   =.nx (sr ns k many size lean turning fs S.length (some (.int i)) (some (.int w)) (some (.int l)) (some (.int r)) (some (.int far)) (some (.str z)) (some (.int (pl:Nat))) (some (.ref (S.length+1+T.length))) Kw HD Gv) (S++ .dct ((dJ i).map Sum.inl) (aY its)::(T++[.lst [.int x,.int y]])):=by
  by_cases c:far=0
  ·obtain ⟨x,y,hx,hy,j,ej,hj,es⟩:=aip (d:=l) (v:= -1) t1 t2 ⟨by omega,by omega⟩ (by omega)
   refine ⟨x,y,hx,hy,cQ _ (aK (v_var rfl) aj (congrArg some (decide_eq_true c))) (aq (qK (aW aj aj (show binop .Sub (.int 0) (.int 1)=some (.int (-1)) from rfl)) (v_var rfl) (aW (v_var rfl) aj (by rw [jy (by decide),ej])) (O9 gB (by simpa using hj))) ?_)⟩
   rw [sB,es];exact aM
  ·exact ⟨_,_,t1,t2,bD _ (aK (v_var rfl) aj (congrArg some (decide_eq_false c))) aM⟩
 obtain ⟨x,y,hx,hy,e1⟩:=c1
 have c2:∃ x' y',Q3 size x'∧Q3 size y'∧aP (Mn (n+2)) (.ite (.band (.cmp .Gt (.var 14) (.cst (.int 5))) (.cmp .Gt (.var 6) (.cst (.int 0)))) (.cons (.uP (.var 17) (.bin .Mod (.var 13) (.cst (.int 2))) (.mn (.var 5) (.bin .Add (.var 10) (.cst (.int 2))))) .nil) .nil) (sr ns k many size lean turning fs S.length (some (.int i)) (some (.int w)) (some (.int l)) (some (.int r)) (some (.int far)) (some (.str z)) (some (.int (pl:Nat))) (some (.ref (S.length+1+T.length))) Kw HD Gv) (S++ .dct ((dJ i).map Sum.inl) (aY its)::(T++[.lst [.int x,.int y]]))
   =.nx (sr ns k many size lean turning fs S.length (some (.int i)) (some (.int w)) (some (.int l)) (some (.int r)) (some (.int far)) (some (.str z)) (some (.int (pl:Nat))) (some (.ref (S.length+1+T.length))) Kw HD Gv) (S++ .dct ((dJ i).map Sum.inl) (aY its)::(T++[.lst [.int x',.int y']])):=by
  have hb:∃ b,ev (Mn (n+2)) (.band (.cmp .Gt (.var 14) (.cst (.int 5))) (.cmp .Gt (.var 6) (.cst (.int 0)))) (sr ns k many size lean turning fs S.length (some (.int i)) (some (.int w)) (some (.int l)) (some (.int r)) (some (.int far)) (some (.str z)) (some (.int (pl:Nat))) (some (.ref (S.length+1+T.length))) Kw HD Gv) (S++ .dct ((dJ i).map Sum.inl) (aY its)::(T++[.lst [.int x,.int y]]))=.ok (.bl b) (S++ .dct ((dJ i).map Sum.inl) (aY its)::(T++[.lst [.int x,.int y]])):=by
   by_cases c:5<far
   ·exact ⟨_,oW (aK (v_var rfl) aj (congrArg some (decide_eq_true c))) (aK (v_var rfl) aj rfl)⟩
   ·exact ⟨_,wO (aK (v_var rfl) aj (congrArg some (decide_eq_false c)))⟩
  obtain ⟨b,hb⟩:=hb
  cases b with
  | true=>
   obtain ⟨x',y',Iz,YT,j,ej,hj,es⟩:=aip (d:=r) (v:=if (i:Int)+2<(size:Int) then (i:Int)+2 else (size:Int)) hx hy (by split<;>exact ⟨by omega,by omega⟩) (by omega)
   refine ⟨x',y',Iz,YT,cQ _ hb (aq (qK (ajo (v_var rfl) (aW (v_var rfl) aj (fj _ _))) (v_var rfl) (aW (v_var rfl) aj (by rw [jy (by decide),ej])) (O9 gB (by simpa using hj))) ?_)⟩
   rw [sB,es];exact aM
  | false=>exact ⟨_,_,hx,hy,bD _ hb aM⟩
 obtain ⟨x',y',Iz,YT,e2⟩:=c2
 have akT:uo [Vl.int x',.int y'] none (some ((pl:Nat):Int))=(([x',y']:List Int).take pl).map .int:=by
  rw [afi,List.map_take];rfl
 have aie:Item size (z,([x',y']:List Int).take pl):=by
  refine ⟨hz,by show (([x',y']:List Int).take pl).length≤2;rw [List.length_take];exact Nat.min_le_right _ _,fun t ht=> ?_,(xK (by simp;omega)).trans hwo⟩
  ·have:=List.mem_of_mem_take ht
   simp only [List.mem_cons,List.not_mem_nil,or_false] at this
   rcases this with rfl | rfl
   ·exact Iz
   ·exact YT
 have ek:((k:Int)+2+(i:Int))=((k+2+i:Nat):Int):=by omega
 have s1':aP (Mn (n+2)) (.asg (.tp (.cons (.nm 11) (.cons (.nm 12) (.cons (.nm 13) (.cons (.nm 14) .nil))))) (.call "_law_digits" (.cons (.var 0) (.cons (.bin .Add (.bin .Add (.var 1) (.cst (.int 2))) (.var 10)) (.cons (.inl (.lst (.cons (.bin .Add (.b1 .len (.var 2)) (.cst (.int 2))) (.cons (.cst (.int 60)) (.cons (.cst (.int 60)) (.cons (.cst (.int 12)) .nil)))))) .nil))))) (sr ns k many size lean turning fs S.length (some (.int i)) a11 a12 a13 a14 a15 a16 Uz Kw HD Gv) (S++ .dct ((dJ i).map Sum.inl) (aY its)::T)
   =.nx (sr ns k many size lean turning fs S.length (some (.int i)) (some (.int w)) (some (.int l)) (some (.int r)) (some (.int far)) a15 a16 Uz Kw HD Gv) (S++ .dct ((dJ i).map Sum.inl) (aY its)::T):=
  bz _ _ (bJ (aa (v_var rfl) (aa (aW (aW (v_var rfl) aj (fj _ _)) (v_var rfl) (by rw [fj,ek])) (aa (du (lK (aa (aW (dG (v_var rfl) rfl) aj (show binop .Add (.int ((3:Nat):Int)) (.int 2)=some (.int 5) from rfl)) (aa aj (aa aj (aa aj az)))) (show 4≤1000000 by decide))) az))) hc) rfl
 have s2':aP (Mn (n+2)) (.asg (.tp (.cons (.nm 15) (.cons (.nm 16) .nil))) (.ite (.cmp .Lt (.var 11) (.b1 .len (.var 2))) (.idx (.var 2) (.var 11)) (.tup (.cons (.cst (.str "cell")) (.cons (.cst (.int 2)) .nil))))) (sr ns k many size lean turning fs S.length (some (.int i)) (some (.int w)) (some (.int l)) (some (.int r)) (some (.int far)) a15 a16 Uz Kw HD Gv) (S++ .dct ((dJ i).map Sum.inl) (aY its)::T)
   =.nx (sr ns k many size lean turning fs S.length (some (.int i)) (some (.int w)) (some (.int l)) (some (.int r)) (some (.int far)) (some (.str z)) (some (.int (pl:Nat))) Uz Kw HD Gv) (S++ .dct ((dJ i).map Sum.inl) (aY its)::T):=
  bz _ _ (hev _ _ _ _ _ _ _) rfl
 have s3':aP (Mn (n+2)) (.asg (.nm 17) (.Cz (.lst (.cons (.bin .Mod (.var 12) (.bin .Add (.var 5) (.cst (.int 1)))) (.cons (.bin .Mod (.var 13) (.bin .Add (.var 5) (.cst (.int 1)))) .nil))))) (sr ns k many size lean turning fs S.length (some (.int i)) (some (.int w)) (some (.int l)) (some (.int r)) (some (.int far)) (some (.str z)) (some (.int (pl:Nat))) Uz Kw HD Gv) (S++ .dct ((dJ i).map Sum.inl) (aY its)::T)
   =.nx (sr ns k many size lean turning fs S.length (some (.int i)) (some (.int w)) (some (.int l)) (some (.int r)) (some (.int far)) (some (.str z)) (some (.int (pl:Nat))) (some (.ref (S.length+1+T.length))) Kw HD Gv) (S++ .dct ((dJ i).map Sum.inl) (aY its)::(T++[.lst [.int (l%((size:Int)+1)),.int (r%((size:Int)+1))]])):=by
  have:=nY (M:=Mn (n+2)) (η:=sr ns k many size lean turning fs S.length (some (.int i)) (some (.int w)) (some (.int l)) (some (.int r)) (some (.int far)) (some (.str z)) (some (.int (pl:Nat))) Uz Kw HD Gv) (S:=S++ .dct ((dJ i).map Sum.inl) (aY its)::T) (lK (aa (aW (a:=.var 12) (v_var rfl) (aW (a:=.var 5) (b:=.cst (.int 1)) (v_var rfl) aj (fj _ _)) (jy (by omega))) (aa (aW (a:=.var 13) (v_var rfl) (aW (a:=.var 5) (b:=.cst (.int 1)) (v_var rfl) aj (fj _ _)) (jy (by omega))) az)) (show 2≤1000000 by decide))
  rw [aA,lA] at this
  exact bz _ _ this rfl
 have s6':aP (Mn (n+2)) (.uP (.var 9) (.bin .Add (.var 10) (.cst (.int 1))) (.tup (.cons (.var 15) (.cons (.b1 .tuple (.inl (.slc (.var 17) .none (.some (.var 16))))) .nil)))) (sr ns k many size lean turning fs S.length (some (.int i)) (some (.int w)) (some (.int l)) (some (.int r)) (some (.int far)) (some (.str z)) (some (.int (pl:Nat))) (some (.ref (S.length+1+T.length))) Kw HD Gv) (S++ .dct ((dJ i).map Sum.inl) (aY its)::(T++[.lst [.int x',.int y']]))
   =.nx (sr ns k many size lean turning fs S.length (some (.int i)) (some (.int w)) (some (.int l)) (some (.int r)) (some (.int far)) (some (.str z)) (some (.int (pl:Nat))) (some (.ref (S.length+1+T.length))) Kw HD Gv) (S++ .dct ((dJ (i+1)).map Sum.inl) (aY (its++[(z,([x',y']:List Int).take pl)]))::(T++[.lst [.int x',.int y']])):=by
  have alo:gY .tuple (S++ .dct ((dJ i).map Sum.inl) (aY its)::(T++[.lst [.int x',.int y']])) (Ob.lst (uo [Vl.int x',.int y'] none (some ((pl:Nat):Int)))).inl=some (.tup ((([x',y']:List Int).take pl).map .int)):=by
   rw [akT];rfl
  have:=qK (M:=Mn (n+2)) (η:=(sr ns k many size lean turning fs S.length (some (.int i)) (some (.int w)) (some (.int l)) (some (.int r)) (some (.int far)) (some (.str z)) (some (.int (pl:Nat))) (some (.ref (S.length+1+T.length))) Kw HD Gv)) (S:=S++ .dct ((dJ i).map Sum.inl) (aY its)::(T++[.lst [.int x',.int y']])) (y:=itV (z,([x',y']:List Int).take pl)) (a:=.var 9) (b:=.bin .Add (.var 10) (.cst (.int 1))) (e:=.tup (.cons (.var 15) (.cons (.b1 .tuple (.inl (.slc (.var 17) .none (.some (.var 16))))) .nil))) (jg (aa (v_var rfl) (aa (dG (du (ae7 (xs:=[.int x',.int y']) (v_var rfl) qC (qF (v_var rfl)) (by simp only [bV,gB]))) alo) az)) (show 2≤1000000 by decide)) (v_var rfl) (aW (v_var rfl) aj (fj _ _)) (jF (kk:=Sum.inl ((i:Int)+1)) gA rfl (by rw [List.length_map,oG];omega))
  rw [sA,aeD,← XQ] at this
  exact this
 exact ⟨_,_,_,_,_,_,_,T++[.lst [.int x',.int y']],(z,([x',y']:List Int).take pl),hT.one (by simp [Ob.nr,dH,Vl.nr]),aie,aq s1' (aq s2' (aq s3' (aq e1 (aq e2 (aq s6' aM)))))⟩
def NQ (z:Str) (y:Int) (nm:dh):dh:=nm.map fun p=>(p.1,if p.1=z then y else p.2)
theorem acf (z:Str) (y:Int) (nm:dh):(NQ z y nm).map (·.1)=nm.map (·.1):=by
 unfold NQ
 rw [List.map_map];rfl
theorem abe {z:Str} {y:Int} {nm:dh} {p:Str × Int} (h:p∈NQ z y nm):p.2=y∨p∈nm:=by
 obtain ⟨q,hq,rfl⟩:=List.mem_map.mp h
 by_cases c:q.1=z
 ·exact .inl (by simp only [if_pos c])
 ·exact .inr (by simp only [if_neg c];exact hq)
theorem Zr (z:Str) (y:Int):∀ nm:dh,mG (Sum.inr z) (.int y) (nm.map fun p=>(Sum.inr p.1:Key)) (nm.map fun p=>Vl.int p.2)=(NQ z y nm).map fun p=>Vl.int p.2
 | []=>rfl
 | p::nm=>by
  have ih:=Zr z y nm
  unfold NQ at ih ⊢
  simp only [List.map_cons,mG]
  rw [ih]
  by_cases c:p.1=z
  ·rw [if_pos (by rw [c]),if_pos c]
  ·rw [if_neg (fun h=>c (Sum.inr.inj h)),if_neg c]
theorem agl {z:Str} {y:Int} {nm:dh} (h:z∈nm.map (·.1)):putD (nm.map fun p=>(Sum.inr p.1:Key)) (nm.map fun p=>Vl.int p.2) (Sum.inr z) (.int y)=((NQ z y nm).map fun p=>Sum.inr p.1,(NQ z y nm).map fun p=>Vl.int p.2):=by
 unfold putD
 rw [if_pos,Zr]
 ·congr 1
  unfold NQ
  rw [List.map_map];rfl
 ·obtain ⟨p,hp,e⟩:=List.mem_map.mp h
  exact List.any_eq_true.mpr ⟨Sum.inr p.1,List.mem_map.mpr ⟨p,hp,rfl⟩,decide_eq_true (by rw [e])⟩
theorem acZ {z:Str} {y:Int} {nm:dh} (h:z∉nm.map (·.1)):putD (nm.map fun p=>(Sum.inr p.1:Key)) (nm.map fun p=>Vl.int p.2) (Sum.inr z) (.int y)=((nm++[(z,y)]).map fun p=>Sum.inr p.1,(nm++[(z,y)]).map fun p=>Vl.int p.2):=by
 rw [tZ (fun hk=>by
  obtain ⟨p,hp,e⟩:=List.mem_map.mp hk
  exact h (List.mem_map.mpr ⟨p,hp,Sum.inr.inj e⟩))]
 simp
theorem raw_name (n:Nat) (ns:List Int) {k many size lean turning i:Nat} {fs:List Str} {z:Str} (hz:fs[i]? =some z) (nd:fs.Nodup) (hf:fs.length≤6) (h6:size≤13) (ht:turning≤100) {nm:dh} (hnm:nm.map (·.1)=fs.take i) {S T:Hs} {sp:Ob} (hS:NR S) (Cp:sp.nr=true) (hT:NR T) (a11 a12 a13 a14 a15 a16 Uz HD Gv:Option Vl) :
  ∃ b19 b20 v,Q3 size v∧exec (Mn (n+2)) CP (sr ns k many size lean turning fs S.length (some (.int i)) a11 a12 a13 a14 a15 a16 Uz (some (.ref (S.length+1+T.length))) HD Gv) (S++sp::(T++[Bp nm]))
   =.nx (sr ns k many size lean turning fs S.length (some (.int i)) a11 a12 a13 a14 a15 a16 Uz (some (.ref (S.length+1+T.length))) b19 b20) (S++sp::(T++[Bp (nm++[(z,v)])])):=by
 have hN:NR (S++sp::(T++[Bp nm])):=nA hS Cp (hT.one (by simp only [Bp,Ob.nr,yt]))
 obtain ⟨ds,hd,hc⟩:=tU n ns (k:=k+3+i) (sizes:=[90,9]) (by decide) (by decide) hN
 obtain ⟨one,gone,rfl,h1,h2⟩:=ajE hd
 have ek:((k:Int)+3+(i:Int))=((k+3+i:Nat):Int):=by omega
 have Rw:i<fs.length:=(List.getElem?_eq_some_iff.mp hz).1
 have s1':aP (Mn (n+2)) (.asg (.tp (.cons (.nm 19) (.cons (.nm 20) .nil))) (.call "_law_digits" (.cons (.var 0) (.cons (.bin .Add (.bin .Add (.var 1) (.cst (.int 3))) (.var 10)) (.cons (.inl (.lst (.cons (.cst (.int 90)) (.cons (.cst (.int 9)) .nil)))) .nil))))) (sr ns k many size lean turning fs S.length (some (.int i)) a11 a12 a13 a14 a15 a16 Uz (some (.ref (S.length+1+T.length))) HD Gv) (S++sp::(T++[Bp nm]))
   =.nx (sr ns k many size lean turning fs S.length (some (.int i)) a11 a12 a13 a14 a15 a16 Uz (some (.ref (S.length+1+T.length))) (some (.int one)) (some (.int gone))) (S++sp::(T++[Bp nm])):=
  bz _ _ (bJ (aa (v_var rfl) (aa (aW (aW (v_var rfl) aj (fj _ _)) (v_var rfl) (by rw [fj,ek])) (aa (du (lK (aa aj (aa aj az)) (show 2≤1000000 by decide))) az))) hc) rfl
 have val:∃ v,Q3 size v∧ev (Mn (n+2)) (.ite (.cmp .Eq (.var 20) (.cst (.int 0))) (.bin .Sub (.cst (.int 0)) (.cst (.int 1))) (.bin .Mod (.bin .Add (.var 19) (.bin .Mult (.var 7) (.var 10))) (.bin .Add (.var 5) (.cst (.int 1))))) (sr ns k many size lean turning fs S.length (some (.int i)) a11 a12 a13 a14 a15 a16 Uz (some (.ref (S.length+1+T.length))) (some (.int one)) (some (.int gone))) (S++sp::(T++[Bp nm]))=.ok (.int v) (S++sp::(T++[Bp nm])):=by
  by_cases c:gone=0
  ·exact ⟨-1,⟨by omega,by omega⟩,lW (aK (v_var rfl) aj (congrArg some (decide_eq_true c))) (aW aj aj (show binop .Sub (.int 0) (.int 1)=some (.int (-1)) from rfl))⟩
  ·exact ⟨_,RG (a:=one+(turning:Int)* (i:Int)),qZ (aK (v_var rfl) aj (congrArg some (decide_eq_false c))) (aW (aW (v_var rfl) (aW (v_var rfl) (v_var rfl) (rF (by omega) (by omega))) (fj _ _)) (aW (v_var rfl) aj (fj _ _)) (jy (by omega)))⟩
 obtain ⟨v,hv,hev⟩:=val
 refine ⟨some (.int one),some (.int gone),v,hv,aq s1' (aq (qK hev (v_var rfl) (dw (v_var rfl) (v_var rfl) (jE (by rw [List.getElem?_map,hz];rfl))) (jF (kk:=Sum.inr z) gB rfl (by have:=congrArg List.length hnm;rw [List.length_map,List.length_take] at this;rw [List.length_map];omega))) ?_)⟩
 rw [sB,acZ (by rw [hnm];exact uL nd hz)]
 exact aM
theorem aiA (n:Nat) (ns:List Int) {k:Nat} {S:Hs} (hS:NR S):∃ nm it,Raw nm it∧it.length≤13∧(Mn (n+4)).cal "_law_raw" [zs ns,.int k,uF,.int 13] S=.ok (.val (rv (eO nm it) (iT nm it))) S:=by
 obtain ⟨ds,hd,hc⟩:=tU (n+1) ns (k:=k) (sizes:=[5,14,4,97]) (by decide) (by decide) hS
 obtain ⟨many,size,lean,turning,rfl,h1,h2,h3,h4⟩:=aad hd
 obtain ⟨many,rfl⟩:∃ m:Nat,many=m:=⟨many.toNat,by omega⟩
 obtain ⟨size,rfl⟩:∃ m:Nat,size=m:=⟨size.toNat,by omega⟩
 obtain ⟨lean,rfl⟩:∃ m:Nat,lean=m:=⟨lean.toNat,by omega⟩
 obtain ⟨turning,rfl⟩:∃ m:Nat,turning=m:=⟨turning.toNat,by omega⟩
 obtain ⟨fs,hfs,hfl,hcn⟩:=ab8 n ns (k:=k+1) (many:=1+many) (by omega) hS
 have i6:size≤13:=by omega
 -- points
 have pts:∃ b10 b11 Ca BJ BZ HJ Ed EY T it,NR T∧it.length=size∧(∀ p∈it,Item size p)∧forL (fun η1 S2=>exec (Mn (n+3)) Dc η1 S2) (.nm 10) [] (jd 0 size) (sr ns k many size lean turning fs S.length none none none none none none none none none none none) (S++ .dct ((dJ 0).map Sum.inl) (aY [])::[])
   =.nx (sr ns k many size lean turning fs S.length b10 b11 Ca BJ BZ HJ Ed EY none none none) (S++Cy (aY it)::T):=by
  obtain ⟨η',S',g1,b10,b11,Ca,BJ,BZ,HJ,Ed,EY,T,it,e1,e2,hT,hl,hit⟩:=gW (body:=fun η1 S2=>exec (Mn (n+3)) Dc η1 S2) (t:=.nm 10) (lk:=[]) (xs:=jd 0 size) (η:=sr ns k many size lean turning fs S.length none none none none none none none none none none none) (S:=S++ .dct ((dJ 0).map Sum.inl) (aY [])::[])
   (fun i η S'=>∃ b10 b11 Ca BJ BZ HJ Ed EY T it,η=sr ns k many size lean turning fs S.length b10 b11 Ca BJ BZ HJ Ed EY none none none∧S'=S++ .dct ((dJ i).map Sum.inl) (aY it)::T∧NR T∧it.length=i∧∀ p∈it,Item size p)
   ⟨none,none,none,none,none,none,none,none,[],[],rfl,rfl,NR.nil,rfl,fun p h=>by cases h⟩ (fun i η S' _=>aU _) fun i x η S' hx ⟨b10,b11,Ca,BJ,BZ,HJ,Ed,EY,T,it,e1,e2,hT,hl,hit⟩=>by
    subst e1 e2
    obtain ⟨hi,rfl⟩:=qI hx
    obtain ⟨c11,c12,c13,c14,c15,c16,c17,T',p,hT',hp,he⟩:=ZV (n+1) ns (k:=k) (many:=many) (size:=size) (lean:=lean) (turning:=turning) (fs:=fs) hi i6 hl hS hT b11 Ca BJ BZ HJ Ed EY none none none
    refine ⟨_,rfl,_,_,.inl he,_,_,_,_,_,_,_,_,T',it++[p],rfl,rfl,hT',by simp [hl],fun q hq=> ?_⟩
    rcases List.mem_append.mp hq with hq | hq
    ·exact hit q hq
    ·rw [List.mem_singleton.mp hq];exact hp
  subst e1
  rw [gU] at e2 hl
  have es:Cy (aY it)=.dct ((dJ size).map Sum.inl) (aY it):=by unfold Cy;rw [fQ,hl]
  rw [← es] at e2
  subst e2
  exact ⟨b10,b11,Ca,BJ,BZ,HJ,Ed,EY,T,it,hT,hl,hit,g1⟩
 obtain ⟨b10,b11,Ca,BJ,BZ,HJ,Ed,EY,T,it,hT,Rw,hit,hpts⟩:=pts
 have ajg:(Cy (aY it)).nr=true:=by simp only [Cy,Ob.nr,rP]
 -- names
 have nms:∃ c10 b19 b20 nm,nm.map (·.1)=fs∧(∀ p∈nm,Q3 size p.2)∧forL (fun η1 S2=>exec (Mn (n+3)) CP η1 S2) (.nm 10) [] (jd 0 fs.length) (sr ns k many size lean turning fs S.length b10 b11 Ca BJ BZ HJ Ed EY (some (.ref (S.length+1+T.length))) none none) (S++Cy (aY it)::(T++[Bp []]))
   =.nx (sr ns k many size lean turning fs S.length c10 b11 Ca BJ BZ HJ Ed EY (some (.ref (S.length+1+T.length))) b19 b20) (S++Cy (aY it)::(T++[Bp nm])):=by
  obtain ⟨η',S',g1,c10,b19,b20,nm,e1,e2,e3,e4⟩:=gW (body:=fun η1 S2=>exec (Mn (n+3)) CP η1 S2) (t:=.nm 10) (lk:=[]) (xs:=jd 0 fs.length) (η:=sr ns k many size lean turning fs S.length b10 b11 Ca BJ BZ HJ Ed EY (some (.ref (S.length+1+T.length))) none none) (S:=S++Cy (aY it)::(T++[Bp []]))
   (fun i η S'=>∃ c10 b19 b20 nm,η=sr ns k many size lean turning fs S.length c10 b11 Ca BJ BZ HJ Ed EY (some (.ref (S.length+1+T.length))) b19 b20∧S'=S++Cy (aY it)::(T++[Bp nm])∧nm.map (·.1)=fs.take i∧∀ p∈nm,Q3 size p.2)
   ⟨b10,none,none,[],rfl,rfl,rfl,fun p h=>by cases h⟩ (fun i η S' _=>aU _) fun i x η S' hx ⟨c10,b19,b20,nm,e1,e2,e3,e4⟩=>by
    subst e1 e2
    obtain ⟨hi,rfl⟩:=qI hx
    have hz:fs[i]? =some fs[i]:=List.getElem?_eq_getElem hi
    obtain ⟨d19,d20,v,hv,he⟩:=raw_name (n+1) ns (k:=k) (many:=many) (size:=size) (lean:=lean) (turning:=turning) hz hfs.nd (by omega) i6 (by omega) e3 hS ajg hT b11 Ca BJ BZ HJ Ed EY b19 b20
    refine ⟨_,rfl,_,_,.inl he,_,_,_,nm++[(fs[i],v)],rfl,rfl,by rw [cO hz,List.map_append,e3];rfl,fun q hq=> ?_⟩
    rcases List.mem_append.mp hq with hq | hq
    ·exact e4 q hq
    ·rw [List.mem_singleton.mp hq];exact hv
  subst e1 e2
  rw [gU,List.take_length] at e3
  exact ⟨c10,b19,b20,nm,e3,e4,g1⟩
 obtain ⟨c10,b19,b20,nm,hnf,hnt,hnms⟩:=nms
 have nml:nm.length=1+many:=by rw [← hfl,← hnf,List.length_map]
 -- the first name on the first point
 have fst:∃ ul,ul.map (·.1)=fs∧(∀ p∈ul,Q3 size p.2)∧aP (Mn (n+3)) (.ite (.band (.cmp .Gt (.var 5) (.cst (.int 0))) (.cmp .Lt (.var 6) (.cst (.int 3)))) (.cons (.uP (.var 18) (.idx (.var 8) (.cst (.int 0))) (.cst (.int 1))) .nil) .nil) (sr ns k many size lean turning fs S.length c10 b11 Ca BJ BZ HJ Ed EY (some (.ref (S.length+1+T.length))) b19 b20) (S++Cy (aY it)::(T++[Bp nm]))
   =.nx (sr ns k many size lean turning fs S.length c10 b11 Ca BJ BZ HJ Ed EY (some (.ref (S.length+1+T.length))) b19 b20) (S++Cy (aY it)::(T++[Bp ul])):=by
  have hb:∃ b,(b=true→1≤size)∧ev (Mn (n+3)) (.band (.cmp .Gt (.var 5) (.cst (.int 0))) (.cmp .Lt (.var 6) (.cst (.int 3)))) (sr ns k many size lean turning fs S.length c10 b11 Ca BJ BZ HJ Ed EY (some (.ref (S.length+1+T.length))) b19 b20) (S++Cy (aY it)::(T++[Bp nm]))=.ok (.bl b) (S++Cy (aY it)::(T++[Bp nm])):=by
   by_cases c:(0:Int)<(size:Int)
   ·exact ⟨decide ((lean:Int)<3),fun _=>by omega,oW (aK (v_var rfl) aj (congrArg some (decide_eq_true c))) (aK (v_var rfl) aj rfl)⟩
   ·exact ⟨false,fun h=>(by cases h),wO (aK (v_var rfl) aj (congrArg some (decide_eq_false c)))⟩
  obtain ⟨b,hb1,hb⟩:=hb
  cases b with
  | true=>
   have h1':=hb1 rfl
   have h0:0<fs.length:=by omega
   have hz:fs[0]? =some fs[0]:=List.getElem?_eq_getElem h0
   have hzm:fs[0]∈nm.map (·.1):=by rw [hnf];exact List.getElem_mem h0
   refine ⟨NQ fs[0] 1 nm,by rw [acf];exact hnf,fun p hp=> ?_,cQ _ hb (aq (qK aj (v_var rfl) (dw (v_var rfl) aj (jE (i:=0) (by rw [List.getElem?_map,hz];rfl))) (jF (kk:=Sum.inr fs[0]) gB rfl (by rw [List.length_map];omega))) ?_)⟩
   ·rcases abe hp with e | e
    ·rw [e];exact ⟨by omega,by omega⟩
    ·exact hnt p e
   ·rw [sB,agl hzm]
    exact aM
  | false=>exact ⟨nm,hnf,hnt,bD _ hb aM⟩
 obtain ⟨ul,hnf',hnt',he⟩:=fst
 have aoz:ul.length=1+many:=by rw [← hfl,← hnf',List.length_map]
 have raw:Raw ul it:=by
  refine ⟨⟨by rw [hnf'];exact hfs.nd,by omega,by omega,fun p hp t ht=>by rw [Rw];exact (hit p hp).t t ht,fun p hp=>by rw [Rw];exact hnt' p hp,fun p hp=>(hit p hp).l⟩,fun p hp=>hfs.w p.1 (by rw [← hnf'];exact List.mem_map.mpr ⟨p,hp,rfl⟩),fun p hp=>by rw [Rw];exact hit p hp⟩
 refine ⟨ul,it,raw,by omega,?_⟩
 rw [abf]
 refine cY (T:=Cy (aY it)::(T++[Bp ul])) rfl ?_ hS (aaw _ _)
 show exec (Mn (n+3)) abD [some (zs ns),some (.int k),some uF,some (.int 13),none,none,none,none,none,none,none,none,none,none,none,none,none,none,none,none,none] S=_
 have hN:NR (S++Cy (aY it)::(T++[Bp ul])):=nA hS ajg (hT.one (by simp only [Bp,Ob.nr,yt]))
 have ek:((k:Int)+1)=((k+1:Nat):Int):=by omega
 have em:((1:Int)+(many:Int))=((1+many:Nat):Int):=by omega
 have hln:gY .len (S++Cy (aY it)::(T++[Bp []])) (.lst (fs.map .str))=some (.int fs.length):=by rw [mJ,List.length_map]
 have a5:=nY (M:=Mn (n+3)) (η:=sr ns k many size lean turning fs S.length b10 b11 Ca BJ BZ HJ Ed EY none none none) (S:=S++Cy (aY it)::T) Gr
 rw [aA,lA] at a5
 have fin:=aeq (n+1) raw.fit (S:=S++Cy (aY it)::(T++[Bp ul])) (r1:=S.length+1+T.length) (r2:=S.length) hN gB gA
 have z1:aP (Mn (n+3)) (.asg (.tp (.cons (.nm 4) (.cons (.nm 5) (.cons (.nm 6) (.cons (.nm 7) .nil))))) (.call "_law_digits" (.cons (.var 0) (.cons (.var 1) (.cons (.inl (.lst (.cons (.cst (.int 5)) (.cons (.bin .Add (.var 3) (.cst (.int 1))) (.cons (.cst (.int 4)) (.cons (.cst (.int 97)) .nil)))))) .nil))))) [some (zs ns),some (.int k),some uF,some (.int 13),none,none,none,none,none,none,none,none,none,none,none,none,none,none,none,none,none] S
   =.nx [some (zs ns),some (.int k),some uF,some (.int 13),some (.int many),some (.int size),some (.int lean),some (.int turning),none,none,none,none,none,none,none,none,none,none,none,none,none] S:=
  bz _ _ (bJ (aa (v_var rfl) (aa (v_var rfl) (aa (du (lK (aa aj (aa (aW (v_var rfl) aj (show binop .Add (.int 13) (.int 1)=some (.int 14) from rfl)) (aa aj (aa aj az)))) (show 4≤1000000 by decide))) az))) hc) rfl
 have z2:aP (Mn (n+3)) (.asg (.nm 8) (.call "_law_names" (.cons (.var 0) (.cons (.bin .Add (.var 1) (.cst (.int 1))) (.cons (.bin .Add (.cst (.int 1)) (.var 4)) .nil))))) [some (zs ns),some (.int k),some uF,some (.int 13),some (.int many),some (.int size),some (.int lean),some (.int turning),none,none,none,none,none,none,none,none,none,none,none,none,none] S
   =.nx [some (zs ns),some (.int k),some uF,some (.int 13),some (.int many),some (.int size),some (.int lean),some (.int turning),some (.lst (fs.map .str)),none,none,none,none,none,none,none,none,none,none,none,none] S:=
  bz _ _ (bJ (aa (v_var rfl) (aa (aW (v_var rfl) aj (by rw [fj,ek])) (aa (aW aj (v_var rfl) (by rw [fj,em])) az))) hcn) rfl
 have z3:aP (Mn (n+3)) (.asg (.nm 9) (.Cz (.zq [] .nil))) [some (zs ns),some (.int k),some uF,some (.int 13),some (.int many),some (.int size),some (.int lean),some (.int turning),some (.lst (fs.map .str)),none,none,none,none,none,none,none,none,none,none,none,none] S
   =.nx (sr ns k many size lean turning fs S.length none none none none none none none none none none none) (S++ .dct ((dJ 0).map Sum.inl) (aY [])::[]):=bz _ _ (nY Gr) rfl
 have z5:aP (Mn (n+3)) (.asg (.nm 18) (.Cz (.zq [] .nil))) (sr ns k many size lean turning fs S.length b10 b11 Ca BJ BZ HJ Ed EY none none none) (S++Cy (aY it)::T)
   =.nx (sr ns k many size lean turning fs S.length b10 b11 Ca BJ BZ HJ Ed EY (some (.ref (S.length+1+T.length))) none none) (S++Cy (aY it)::(T++[Bp []])):=bz _ _ a5 rfl
 exact aq z1 (aq z2 (aq z3 (aq (jJ _ _ _ (mD (v_var rfl) (by omega)) hpts) (aq z5 (aq (jJ _ _ _ (mD (dG (v_var rfl) hln) (by omega)) hnms) (aq he (bF (dI _ _ (bJ (r:=.val (rv (eO ul it) (iT ul it))) (aa (v_var rfl) (aa (v_var rfl) az)) fin)))))))))
end K04
namespace K04
open PySem L2 Oz
structure Can (ld:dh) (it:Its):Prop where
 raw:Raw ld it
 srt:bK ld=ld
 full:ord ld it=dJ it.length
theorem Wn {o:List Int} {t:Int} (h: -1≤t) (k:0<t→t∈o): -1≤anew o t∧anew o t≤o.length:=by
 unfold anew
 split
 ·rename_i c
  have:=List.idxOf_lt_length_of_mem (k c)
  omega
 ·omega
theorem Yn (nm:dh) (f:Str × Int→Int):bK (nm.map fun p=>(p.1,f p))=(bK nm).map fun p=>(p.1,f p):=by
 unfold bK
 exact j5 (fun p:Str × Int=>p.1) (fun p=>(p.1,f p)) (fun p:Str × Int=>p.1) (fun _=>rfl) nm
theorem ZM {nm:dh} (nd:(nm.map (·.1)).Nodup):bK (bK nm)=bK nm:=by
 unfold bK
 exact (uG (f:=fun p:Str × Int=>p.1) (xs:=sortBy (·.1) nm) (ys:=sortBy (·.1) nm) (DQ nd) (List.Perm.refl _) (Ay _ nm)).symm
theorem aa9 (nm:dh) (it:Its):(eO nm it).length=nm.length:=by unfold eO;rw [List.length_map,(bZ nm).length_eq]
theorem uA (nm:dh) (it:Its):(iT nm it).length=(ord nm it).length:=by unfold iT;rw [List.length_map]
theorem Ow {nm:dh} {it:Its} (nd:(nm.map (·.1)).Nodup):bK (eO nm it)=eO nm it:=by
 unfold eO
 rw [Yn,ZM nd]
theorem aeF {nm:dh} {it:Its} (x:Int) (hx:x∈ord nm it) (h:Sv nm it):fG (iT nm it) (anew (ord nm it) x)=(fG it x).map (anew (ord nm it)):=by
 have hp:=(rA h x hx).1
 have hl:=List.idxOf_lt_length_of_mem hx
 have e:(anew (ord nm it) x - 1).toNat=(ord nm it).idxOf x:=by
  unfold anew
  rw [if_pos (by omega)]
  omega
 unfold fG
 rw [e]
 unfold iT
 rw [List.getElem?_map,List.getElem?_eq_getElem hl,List.getElem_idxOf hl]
 rfl
theorem Ud {nm:dh} {it:Its} (h:Raw nm it):Can (eO nm it) (iT nm it):=by
 have hf:=h.fit
 obtain ⟨c1,c2⟩:=NZ hf
 have pos:∀ x∈ord nm it,0<x:=fun x hx=>by have:=(rA hf x hx).1;omega
 have names:(eO nm it).map (·.1)=(bK nm).map (·.1):=by unfold eO;rw [List.map_map];rfl
 have QR:∀ p∈iT nm it,∃ x∈ord nm it,∃ q∈it,fG it x=q.2∧p=(q.1,q.2.map (anew (ord nm it))):=fun p hp=>by
  obtain ⟨x,hx,rfl⟩:=List.mem_map.mp hp
  obtain ⟨q,hq,e1,e2⟩:=Ds (rA hf x hx)
  exact ⟨x,hx,q,List.mem_of_getElem? hq,e1,by rw [e1,e2]⟩
 have tgt:∀ p∈iT nm it,∀ t∈p.2,-1≤t∧t≤(iT nm it).length:=fun p hp t ht=>by
  obtain ⟨x,hx,q,hq,e1,rfl⟩:=QR p hp
  obtain ⟨u,hu,rfl⟩:=List.mem_map.mp ht
  rw [uA]
  have hu':u∈fG it x:=by rw [e1];exact hu
  exact Wn (hf.hi q hq u hu).1 (c2 x hx u hu')
 have fit:Sv (eO nm it) (iT nm it):=by
  refine ⟨by rw [names];exact DQ hf.nd,by rw [aa9];exact hf.n6,by rw [uA];exact Nat.le_trans (rG hf) hf.i6,tgt,fun p hp=> ?_,fun p hp=> ?_⟩
  ·obtain ⟨q,hq,rfl⟩:=List.mem_map.mp hp
   have hq':=(bZ nm).mem_iff.mp hq
   rw [uA]
   exact Wn (hf.ht q hq').1 (c1 q hq')
  ·obtain ⟨x,hx,q,hq,e1,rfl⟩:=QR p hp
   rw [List.length_map];exact hf.h2 q hq
 refine ⟨⟨fit,fun p hp=> ?_,fun p hp=> ?_⟩,Ow hf.nd,?_⟩
 ·obtain ⟨q,hq,rfl⟩:=List.mem_map.mp hp
  exact h.hw q ((bZ nm).mem_iff.mp hq)
 ·refine ⟨?_,fit.h2 p hp,tgt p hp,(by
   obtain ⟨x,hx,q,hq,e1,rfl⟩:=QR p hp
   exact (xK (by simp)).trans (h.hi q hq).k)⟩
  obtain ⟨x,hx,q,hq,e1,rfl⟩:=QR p hp
  simp only [List.length_map]
  exact (h.hi q hq).w
 ·-- all is met,in order
  have ren:=aax pos
  have e0:push [] ((bK (eO nm it)).map (·.2))=(push [] ((bK nm).map (·.2))).map (anew (ord nm it)):=by
   rw [Ow hf.nd]
   have:(eO nm it).map (·.2)=((bK nm).map (·.2)).map (anew (ord nm it)):=by unfold eO;rw [List.map_map,List.map_map];rfl
   rw [this]
   exact yS ren (f:=[]) (fun x hx=>by cases hx) fun t ht h0=>by
    obtain ⟨p,hp,rfl⟩:=List.mem_map.mp ht
    exact c1 p ((bZ nm).mem_iff.mp hp) h0
  unfold ord
  rw [e0,Ou (nx:=fG it) ren c2 (fun x hx=>aeF x hx hf) (fun x hx=>kE.subset hx),uA]
  have sh:vM (fG it) (ord nm it).length 0 (push [] ((bK nm).map (·.2)))=ord nm it:=by
   have hle:=rG hf
   have e:it.length=(ord nm it).length+(it.length - (ord nm it).length):=by omega
   have q:=Jw (nx:=fG it) (m:=(ord nm it).length) (k:=0) (d:=it.length - (ord nm it).length) (f:=push [] ((bK nm).map (·.2)))
   rw [← e] at q
   exact q (by show (ord nm it).length≤_;omega)
  rw [sh]
  exact aa7 GJ pos
structure Turn (ld:dh) (it:Its) (g:Int→Int) (ul:dh) (u9:Its):Prop where
 g0:g 0=0
 g1:g (-1)= -1
 ren:Ren (Uc it.length) g
 rng:∀ x,Uc it.length x→Uc it.length (g x)
 len:u9.length=it.length
 at_:∀ x,Uc it.length x→u9[(g x - 1).toNat]? =some (Um it x,(fG it x).map g)
 sur:∀ y,Uc it.length y→∃ x,Uc it.length x∧g x=y
 nm:(ld.map fun p=>(p.1,g p.2)).Perm ul
theorem aeV {ld ul:dh} {it u9:Its} {g:Int→Int} (t:Turn ld it g ul u9) {x:Int} (h: -1≤x) (k:x≤0):g x=x:=by
 have:x=0∨x= -1:=by omega
 rcases this with rfl | rfl
 ·exact t.g0
 ·exact t.g1
theorem adt {ld ul:dh} {it u9:Its} {g:Int→Int} (h:Can ld it) (t:Turn ld it g ul u9):Raw ul u9∧(ord ul u9).length=u9.length∧eO ul u9=ld∧iT ul u9=it:=by
 have hf:=h.raw.fit
 have aiu:∀ u:Int,-1≤u∧u≤it.length→-1≤g u∧g u≤u9.length:=fun u hu=>by
  rw [t.len]
  by_cases c:0<u
  ·have:=t.rng u ⟨by omega,hu.2⟩
   exact ⟨by have:=this.1;omega,this.2⟩
  ·rw [aeV t hu.1 (by omega)];omega
 have ajk:∀ p∈ul,∃ q∈ld,p=(q.1,g q.2):=fun p hp=>by
  obtain ⟨q,hq,rfl⟩:=List.mem_map.mp (t.nm.mem_iff.mpr hp)
  exact ⟨q,hq,rfl⟩
 have keys:(ld.map fun p=>(p.1,g p.2)).map (·.1)=ld.map (·.1):=by rw [List.map_map];rfl
 have nd':(ul.map (·.1)).Nodup:=((t.nm.map (·.1)).nodup_iff).mp (by rw [keys];exact hf.nd)
 have abq:∀ p∈u9,∃ x,Uc it.length x∧∃ q∈it,fG it x=q.2∧p=(q.1,q.2.map g):=fun p hp=>by
  obtain ⟨i,hi⟩:=List.getElem?_of_mem hp
  have hl:=(List.getElem?_eq_some_iff.mp hi).1
  rw [t.len] at hl
  obtain ⟨x,hx,gx⟩:=t.sur ((i:Int)+1) ⟨by omega,by omega⟩
  have e:=t.at_ x hx
  rw [gx,show (((i:Int)+1) - 1).toNat=i by omega,hi] at e
  obtain ⟨q,hq,e1,e2⟩:=Ds hx
  rw [e1,e2] at e
  exact ⟨x,hx,q,List.mem_of_getElem? hq,e1,Option.some.inj e⟩
 have tgt:∀ p∈u9,∀ u∈p.2,-1≤u∧u≤u9.length:=fun p hp u hu=>by
  obtain ⟨x,hx,q,hq,e1,rfl⟩:=abq p hp
  obtain ⟨v,hv,rfl⟩:=List.mem_map.mp hu
  exact aiu v (hf.hi q hq v hv)
 have raw:Raw ul u9:=by
  refine ⟨⟨nd',by rw [← t.nm.length_eq,List.length_map];exact hf.n6,by rw [t.len];exact hf.i6,tgt,fun p hp=> ?_,fun p hp=> ?_⟩,fun p hp=> ?_,fun p hp=> ?_⟩
  ·obtain ⟨q,hq,rfl⟩:=ajk p hp
   exact aiu q.2 (hf.ht q hq)
  ·obtain ⟨x,hx,q,hq,e1,rfl⟩:=abq p hp
   rw [List.length_map];exact hf.h2 q hq
  ·obtain ⟨q,hq,rfl⟩:=ajk p hp
   exact h.raw.hw q hq
  ·refine ⟨?_,(by
    obtain ⟨x,hx,q,hq,e1,rfl⟩:=abq p hp
    rw [List.length_map];exact hf.h2 q hq),tgt p hp,(by
    obtain ⟨x,hx,q,hq,e1,rfl⟩:=abq p hp
    exact (xK (by simp)).trans (h.raw.hi q hq).k)⟩
   obtain ⟨x,hx,q,hq,e1,rfl⟩:=abq p hp
   simp only [List.length_map]
   exact (h.raw.hi q hq).w
 have srt:bK ul=ld.map fun p=>(p.1,g p.2):=by
  refine (uG (f:=fun p:Str × Int=>p.1) nd' t.nm ?_).symm
  rw [List.pairwise_map]
  have:=Ay (fun p:Str × Int=>p.1) ld
  have e:sortBy (fun p:Str × Int=>p.1) ld=ld:=h.srt
  rw [e] at this
  exact this
 have adR:ord ul u9=(dJ it.length).map g:=by
  unfold ord
  rw [srt,t.len]
  have e1:(ld.map fun p=>(p.1,g p.2)).map (·.2)=(ld.map (·.2)).map g:=by rw [List.map_map,List.map_map];rfl
  have hp:∀ u∈ld.map (·.2),0<u→Uc it.length u:=fun u hu h0=>by
   obtain ⟨p,hp,rfl⟩:=List.mem_map.mp hu
   exact ⟨by omega,(hf.ht p hp).2⟩
  have e2:push [] ((ld.map (·.2)).map g)=(push [] (ld.map (·.2))).map g:=yS t.ren (f:=[]) (fun x hx=>by cases hx) hp
  have hc:∀ x,Uc it.length x→∀ u∈fG it x,0<u→Uc it.length u:=fun x _ u hu h0=>⟨by omega,(QX hf x u hu).2⟩
  rw [e1,e2,Ou (nx:=fG it) (nx':=fG u9) t.ren hc (fun x hx=>by
   unfold fG
   rw [t.at_ x hx]
   rfl) (fun x hx=>by
   rcases m9.mp hx with c | ⟨c,d⟩
   ·cases c
   ·exact hp x c d)]
  have e3:=h.full
  unfold ord at e3
  rw [h.srt] at e3
  rw [e3]
 have afA:∀ u:Int,-1≤u∧u≤it.length→anew (ord ul u9) (g u)=u:=fun u hu=>by
  rw [adR]
  by_cases c:0<u
  ·have hu':Uc it.length u:=⟨by omega,hu.2⟩
   unfold anew
   rw [if_pos (t.ren.pos u hu')]
   have nd2:((dJ it.length).map g).Nodup:=by rw [← adR];exact GJ
   have:((dJ it.length).map g)[(u - 1).toNat]? =some (g u):=by
    rw [List.getElem?_map,Dg (by omega)]
    simp only [Option.map_some]
    congr 2
    omega
   rw [Oc nd2 this]
   omega
  ·rw [aeV t hu.1 (by omega)]
   unfold anew
   rw [if_neg c]
 refine ⟨raw,by rw [adR,List.length_map,oG,t.len],?_,?_⟩
 ·unfold eO
  rw [srt,List.map_map]
  have:ld.map ((fun p:Str × Int=>(p.1,anew (ord ul u9) p.2)) ∘ fun p=>(p.1,g p.2))=ld.map id:=List.map_congr_left fun p hp=>by
   simp only [Function.comp,id]
   rw [afA p.2 (hf.ht p hp)]
  rw [this,List.map_id]
 ·unfold iT
  have:(ord ul u9).map (fun x=>(Um u9 x,(fG u9 x).map (anew (ord ul u9))))=(dJ it.length).map fun x=>(Um it x,fG it x):=by
   rw [show (ord ul u9).map (fun x=>(Um u9 x,(fG u9 x).map (anew (ord ul u9))))=((dJ it.length).map g).map (fun x=>(Um u9 x,(fG u9 x).map (anew (ord ul u9)))) by rw [← adR],List.map_map]
   refine List.map_congr_left fun x hx=> ?_
   have Iz:=xQ.mp hx
   have e:=t.at_ x Iz
   simp only [Function.comp]
   have e1:Um u9 (g x)=Um it x:=by unfold Um at*;rw [e]
   have e2:fG u9 (g x)=(fG it x).map g:=by
    have e':=e
    unfold fG at *
    rw [e']
   rw [e1,e2,List.map_map]
   congr 1
   have:(fG it x).map (anew (ord ul u9) ∘ g)=(fG it x).map id:=List.map_congr_left fun u hu=>by
    simp only [Function.comp,id]
    exact afA u (QX hf x u hu)
   rw [this,List.map_id]
  rw [this]
  apply List.ext_getElem?
  intro i
  rw [List.getElem?_map]
  by_cases c:i<it.length
  ·rw [Dg c,List.getElem?_eq_getElem c]
   simp only [Option.map_some]
   unfold Um fG
   rw [show (((i:Int)+1) - 1).toNat=i by omega,List.getElem?_eq_getElem c]
  ·rw [List.getElem?_eq_none (by rw [oG];omega),List.getElem?_eq_none (by omega)];rfl
theorem ac2 {ld:dh} {it:Its} (h:Can ld it):Turn ld it id ld it:=by
 refine ⟨rfl,rfl,⟨fun a b _ _ e=>e,fun a ha=>by have:=ha.1;show 0<a;omega,fun a ha=>ha⟩,fun x hx=>hx,rfl,fun x hx=> ?_,fun y hy=>⟨y,hy,rfl⟩,?_⟩
 ·obtain ⟨p,hp,e1,e2⟩:=Ds hx
  rw [List.map_id,e1,e2]
  exact hp
 ·have:(ld.map fun p=>(p.1,id p.2))=ld:=by
   have:(ld.map fun p=>(p.1,id p.2))=ld.map id:=List.map_congr_left fun p _=>rfl
   rw [this,List.map_id]
  rw [this]
end K04
section OzTac
open PySem L2 Oz
local macro_rules | `(tactic| tm_at "ozG")=>`(tactic| first | exact List.getElem?_concat_length | fail)
local macro_rules | `(tactic| tm_at "ozG")=>`(tactic| first | ((with_reducible apply g_p);tm_at "ozG") | fail)
local macro_rules | `(tactic| tm_at "ozG")=>`(tactic| first | ((with_reducible apply g_k);exact rfl) | fail)
local macro_rules | `(tactic| tm_at "ozG")=>`(tactic| first | with_reducible exact g_z | fail)
local macro_rules | `(tactic| tm_at "ozG")=>`(tactic| first | with_reducible assumption | fail)
local macro_rules | `(tactic| tm_at "ozSet")=>`(tactic| first | (apply Ox.s;(focus (tm_at "ozSet"))) | fail)
local macro_rules | `(tactic| tm_at "ozSet")=>`(tactic| first | exact Ox.z _ _ _ | fail)
local macro_rules | `(tactic| tm_at "ozN")=>`(tactic| first | (refine nr_h ?_ ?_;(focus (tm_at "ozN"));simp only [List.all_cons,List.all_nil,Ob.nr,dH,Vl.nr,Wr,dU,lE,Bool.and_self,Bool.and_true,Bool.true_and, *]) | fail)
local macro_rules | `(tactic| tm_at "ozN")=>`(tactic| first | assumption | fail)
local macro_rules | `(tactic| tm_at "ozC")=>`(tactic| (refine pid ?_;with_reducible assumption))
local macro_rules | `(tactic| tm_at "ozB")=>`(tactic| first | decide | fail)
local macro_rules | `(tactic| tm_at "ozB")=>`(tactic| first | (simp only [*,Bool.and_self,Bool.or_self,Bool.not_true,Bool.not_false,Bool.and_true,Bool.true_and,Bool.or_true,Bool.true_or,Bool.or_false,Bool.false_or,Bool.and_false,Bool.false_and,decide_true,decide_false];done) | fail)
local macro_rules | `(tactic| tm_at "ozB")=>`(tactic| first | (simp only [decide_eq_true_eq,decide_eq_false_iff_not,Bool.and_eq_true,Bool.or_eq_true,Bool.not_eq_true',Bool.or_eq_false_iff,Bool.and_eq_false_iff,Bool.not_eq_false'] at*;omega) | fail)
local macro_rules | `(tactic| tm_at "ozB")=>`(tactic| first | exact rfl | fail)
local macro_rules | `(tactic| tm_at "ozB")=>`(tactic| first | assumption | fail)
local macro_rules | `(tactic| tm_at "ozB")=>`(tactic| first | with_reducible rfl | fail)
local macro_rules | `(tactic| tm_at "ozOA")=>`(tactic| first | exact rfl | fail)
local macro_rules | `(tactic| tm_at "ozOA")=>`(tactic| first | with_reducible exact Gj | fail)
local macro_rules | `(tactic| tm_at "ozOA")=>`(tactic| first | ((with_reducible apply lw);first | (simp only [List.length_map,List.length_nil,List.length_cons,List.length_append];omega) | omega) | fail)
local macro_rules | `(tactic| tm_at "ozOA")=>`(tactic| first | ((with_reducible apply q_ixRM);(focus (tm_at "ozG"));assumption) | fail)
local macro_rules | `(tactic| tm_at "ozOA")=>`(tactic| first | ((with_reducible apply q_ixTM);assumption) | fail)
local macro_rules | `(tactic| tm_at "ozOA")=>`(tactic| first | ((with_reducible apply q_ixM);assumption) | fail)
local macro_rules | `(tactic| tm_at "ozOA")=>`(tactic| first | ((with_reducible apply ajU);(focus (tm_at "ozO"));exact rfl) | fail)
local macro_rules | `(tactic| tm_at "ozOA")=>`(tactic| first | ((with_reducible apply q_walk);tm_at "ozG") | fail)
local macro_rules | `(tactic| tm_at "ozOA")=>`(tactic| first | ((with_reducible apply q_ins);tm_at "ozG") | fail)
local macro_rules | `(tactic| tm_at "ozOA")=>`(tactic| first | ((with_reducible apply q_dct);tm_at "ozG") | fail)
local macro_rules | `(tactic| tm_at "ozOA")=>`(tactic| first | ((with_reducible apply q_lstOf);tm_at "ozG") | fail)
local macro_rules | `(tactic| tm_at "ozOA")=>`(tactic| first | ((with_reducible apply q_lst);tm_at "ozG") | fail)
local macro_rules | `(tactic| tm_at "ozOA")=>`(tactic| first | ((with_reducible apply q_lenD);tm_at "ozG") | fail)
local macro_rules | `(tactic| tm_at "ozOA")=>`(tactic| first | ((with_reducible apply q_lenR);tm_at "ozG") | fail)
local macro_rules | `(tactic| tm_at "ozOA")=>`(tactic| first | ((with_reducible apply q_lenS);omega) | fail)
local macro_rules | `(tactic| tm_at "ozOA")=>`(tactic| first | with_reducible exact Xb _ _ | fail)
local macro_rules | `(tactic| tm_at "ozOA")=>`(tactic| first | with_reducible exact mJ _ _ | fail)
local macro_rules | `(tactic| tm_at "ozOA")=>`(tactic| first | ((with_reducible apply eX);first | decide+kernel | omega) | fail)
local macro_rules | `(tactic| tm_at "ozOA")=>`(tactic| first | ((with_reducible apply Fo)<;>omega) | fail)
local macro_rules | `(tactic| tm_at "ozOA")=>`(tactic| first | ((with_reducible apply rF)<;>omega) | fail)
local macro_rules | `(tactic| tm_at "ozOA")=>`(tactic| first | ((with_reducible apply Ug)<;>omega) | fail)
local macro_rules | `(tactic| tm_at "ozOA")=>`(tactic| first | ((with_reducible apply jy);omega) | fail)
local macro_rules | `(tactic| tm_at "ozOA")=>`(tactic| first | with_reducible exact Rk _ _ | fail)
local macro_rules | `(tactic| tm_at "ozOA")=>`(tactic| first | with_reducible exact fj _ _ | fail)
local macro_rules | `(tactic| tm_at "ozOA")=>`(tactic| first | with_reducible assumption | fail)
local macro_rules | `(tactic| tm_at "ozO")=>`(tactic| (refine pid ?_;first | tm_at "ozOA" | fail))
local macro_rules | `(tactic| tm_at "ozE")=>`(tactic| first | tm_at "ozC" | fail)
local macro_rules | `(tactic| tm_at "ozE")=>`(tactic| first | tm_at "ozO" | fail)
local macro_rules | `(tactic| tm_at "ozE")=>`(tactic| first | with_reducible apply ev_zip | fail)
local macro_rules | `(tactic| tm_at "ozE")=>`(tactic| first | with_reducible apply zB | fail)
local macro_rules | `(tactic| tm_at "ozE")=>`(tactic| first | with_reducible apply Gx | fail)
local macro_rules | `(tactic| tm_at "ozE")=>`(tactic| first | with_reducible apply iG | fail)
local macro_rules | `(tactic| tm_at "ozE")=>`(tactic| first | with_reducible apply aeR | fail)
local macro_rules | `(tactic| tm_at "ozE")=>`(tactic| first | ((with_reducible apply v_olen);(focus (tm_at "ozV"));(focus (tm_at "ozO"));(focus (tm_at "ozC"));omega) | fail)
local macro_rules | `(tactic| tm_at "ozE")=>`(tactic| first | with_reducible apply v_xf | fail)
local macro_rules | `(tactic| tm_at "ozE")=>`(tactic| first | with_reducible apply aeU | fail)
local macro_rules | `(tactic| tm_at "ozE")=>`(tactic| first | with_reducible apply aiY | fail)
local macro_rules | `(tactic| tm_at "ozE")=>`(tactic| first | with_reducible apply afo | fail)
local macro_rules | `(tactic| tm_at "ozE")=>`(tactic| first | with_reducible apply u_fs | fail)
local macro_rules | `(tactic| tm_at "ozE")=>`(tactic| first | with_reducible apply xG | fail)
local macro_rules | `(tactic| tm_at "ozE")=>`(tactic| first | with_reducible apply v_mx | fail)
local macro_rules | `(tactic| tm_at "ozE")=>`(tactic| first | with_reducible apply ajo | fail)
local macro_rules | `(tactic| tm_at "ozE")=>`(tactic| first | ((with_reducible apply u_iteB);(focus (tm_at "ozV"));(focus (intro _;tm_at "ozV"));(focus (intro _;tm_at "ozV"))) | fail)
local macro_rules | `(tactic| tm_at "ozE")=>`(tactic| first | ((with_reducible apply u_iteS);(focus (tm_at "ozV"));(focus (intro _;tm_at "ozV"));(focus (intro _;tm_at "ozV"))) | fail)
local macro_rules | `(tactic| tm_at "ozE")=>`(tactic| first | ((with_reducible apply u_iteI);(focus (tm_at "ozV"));(focus (intro _;tm_at "ozV"));(focus (intro _;tm_at "ozV"))) | fail)
local macro_rules | `(tactic| tm_at "ozE")=>`(tactic| first | ((with_reducible apply u_ite0);(focus (tm_at "ozV"));(focus (tm_at "ozB"))) | fail)
local macro_rules | `(tactic| tm_at "ozE")=>`(tactic| first | ((with_reducible apply aan);(focus (tm_at "ozV"));(focus (tm_at "ozB"))) | fail)
local macro_rules | `(tactic| tm_at "ozE")=>`(tactic| first | with_reducible apply u_lset | fail)
local macro_rules | `(tactic| tm_at "ozE")=>`(tactic| first | with_reducible apply u_tidx | fail)
local macro_rules | `(tactic| tm_at "ozE")=>`(tactic| first | ((with_reducible apply u_dgt);(focus (tm_at "ozV"));(focus (tm_at "ozV"));(focus (tm_at "ozV"));(focus (tm_at "ozO"));exact rfl;(focus (tm_at "ozO"))) | fail)
local macro_rules | `(tactic| tm_at "ozE")=>`(tactic| first | ((with_reducible apply u_kget);(focus (tm_at "ozV"));(focus (tm_at "ozD"));(focus (tm_at "ozO"))) | fail)
local macro_rules | `(tactic| tm_at "ozE")=>`(tactic| first | ((with_reducible apply u_kin);(focus (tm_at "ozV"));(focus (tm_at "ozD"));(focus (tm_at "ozO"))) | fail)
local macro_rules | `(tactic| tm_at "ozE")=>`(tactic| first | ((with_reducible apply u_mut);(focus (tm_at "ozV"));(focus (tm_at "ozV"));(focus (tm_at "ozG"));(focus (tm_at "ozG"));(focus (tm_at "ozO"));(with_reducible apply s_k);(focus (tm_at "ozSet"))) | fail)
local macro_rules | `(tactic| tm_at "ozE")=>`(tactic| first | ((with_reducible apply ahI);(focus (tm_at "ozV"));(focus (tm_at "ozO"));(focus (tm_at "ozV"));(focus (tm_at "ozC"));exact rfl) | fail)
local macro_rules | `(tactic| tm_at "ozE")=>`(tactic| first | ((with_reducible apply u_mcl);(focus (tm_at "ozV"));(focus (tm_at "ozO"));(focus (tm_at "ozV"));(focus (tm_at "ozC"))) | fail)
local macro_rules | `(tactic| tm_at "ozE")=>`(tactic| first | ((with_reducible apply f_mcl);(focus (tm_at "ozV"));(focus (tm_at "ozO"));(focus (tm_at "ozV"));(focus (tm_at "ozC"))) | fail)
local macro_rules | `(tactic| tm_at "ozE")=>`(tactic| first | ((with_reducible apply f_call);(focus (tm_at "ozV"));(focus (tm_at "ozC"))) | fail)
local macro_rules | `(tactic| tm_at "ozE")=>`(tactic| first | ((with_reducible apply ye);(focus (tm_at "ozV"));(focus (tm_at "ozV"));decide+kernel;decide+kernel) | fail)
local macro_rules | `(tactic| tm_at "ozE")=>`(tactic| first | ((with_reducible apply aay);(focus (tm_at "ozV"));exact rfl;(focus (tm_at "ozV"));(focus (tm_at "ozO"))) | fail)
local macro_rules | `(tactic| tm_at "ozE")=>`(tactic| first | ((with_reducible apply abR);(focus (tm_at "ozV"));exact rfl;(focus (tm_at "ozV"));(focus (tm_at "ozO"))) | fail)
local macro_rules | `(tactic| tm_at "ozE")=>`(tactic| first | with_reducible apply aj1 | fail)
local macro_rules | `(tactic| tm_at "ozE")=>`(tactic| first | ((with_reducible apply Jv);(focus (tm_at "ozV"));(focus (tm_at "ozV"));(focus (tm_at "ozO"));(focus (tm_at "ozO"));(first | (exact Nat.le_of_ble_eq_true rfl) | (simp only [List.length_map,List.length_nil,List.length_cons,List.length_append];omega));(first | (simp only [List.cons_append,List.nil_append];exact rfl) | exact rfl)) | fail)
local macro_rules | `(tactic| tm_at "ozE")=>`(tactic| first | with_reducible apply f_dctp | fail)
local macro_rules | `(tactic| tm_at "ozE")=>`(tactic| first | with_reducible exact Gr | fail)
local macro_rules | `(tactic| tm_at "ozE")=>`(tactic| first | with_reducible apply Uq | fail)
local macro_rules | `(tactic| tm_at "ozE")=>`(tactic| first | with_reducible apply Td | fail)
local macro_rules | `(tactic| tm_at "ozE")=>`(tactic| first | with_reducible apply f_srt | fail)
local macro_rules | `(tactic| tm_at "ozE")=>`(tactic| first | with_reducible apply ae7 | fail)
local macro_rules | `(tactic| tm_at "ozE")=>`(tactic| first | with_reducible apply aj8 | fail)
local macro_rules | `(tactic| tm_at "ozE")=>`(tactic| first | ((with_reducible apply rJ);(focus (tm_at "ozV"));exact rfl) | fail)
local macro_rules | `(tactic| tm_at "ozE")=>`(tactic| first | ((with_reducible apply u_inlO);(focus (tm_at "ozV"))) | fail)
local macro_rules | `(tactic| tm_at "ozE")=>`(tactic| first | ((with_reducible apply u_inlD);(focus (tm_at "ozV"))) | fail)
local macro_rules | `(tactic| tm_at "ozE")=>`(tactic| first | ((with_reducible apply ju);(focus (tm_at "ozV"))) | fail)
local macro_rules | `(tactic| tm_at "ozE")=>`(tactic| first | ((with_reducible apply u_alc);(focus (tm_at "ozV"));(focus (first | (simp only [List.length_nil,List.length_cons,Nat.zero_add,Nat.reduceAdd];exact rfl) | exact rfl));(focus (first | (simp only [List.nil_append,List.cons_append];exact rfl) | exact rfl))) | fail)
local macro_rules | `(tactic| tm_at "ozE")=>`(tactic| first | with_reducible apply Br | fail)
local macro_rules | `(tactic| tm_at "ozE")=>`(tactic| first | with_reducible apply qF | fail)
local macro_rules | `(tactic| tm_at "ozE")=>`(tactic| first | with_reducible exact qC | fail)
local macro_rules | `(tactic| tm_at "ozE")=>`(tactic| first | with_reducible apply W9 | fail)
local macro_rules | `(tactic| tm_at "ozE")=>`(tactic| first | with_reducible apply u_tru | fail)
local macro_rules | `(tactic| tm_at "ozE")=>`(tactic| first | with_reducible apply Hw | fail)
local macro_rules | `(tactic| tm_at "ozE")=>`(tactic| first | ((with_reducible apply u_or);(focus (tm_at "ozV"));intro _;(focus (tm_at "ozV"))) | fail)
local macro_rules | `(tactic| tm_at "ozE")=>`(tactic| first | ((with_reducible apply u_and);(focus (tm_at "ozV"));intro _;(focus (tm_at "ozV"))) | fail)
local macro_rules | `(tactic| tm_at "ozE")=>`(tactic| first | with_reducible apply afj | fail)
local macro_rules | `(tactic| tm_at "ozE")=>`(tactic| first | with_reducible apply jK | fail)
local macro_rules | `(tactic| tm_at "ozE")=>`(tactic| first | ((with_reducible apply u_callF);(focus (tm_at "ozV"));(focus (tm_at "ozC"));exact rfl) | fail)
local macro_rules | `(tactic| tm_at "ozE")=>`(tactic| first | ((with_reducible apply u_callFD);(focus (tm_at "ozV"));(focus (tm_at "ozC"))) | fail)
local macro_rules | `(tactic| tm_at "ozE")=>`(tactic| first | ((with_reducible apply u_callFL);(focus (tm_at "ozV"));(focus (tm_at "ozC"))) | fail)
local macro_rules | `(tactic| tm_at "ozE")=>`(tactic| first | ((with_reducible apply u_call);(focus (tm_at "ozV"));(focus (tm_at "ozC"))) | fail)
local macro_rules | `(tactic| tm_at "ozE")=>`(tactic| first | with_reducible apply dG | fail)
local macro_rules | `(tactic| tm_at "ozE")=>`(tactic| first | ((with_reducible apply ajj);(focus (repeat' (tm_at "ozE")));exact rfl) | fail)
local macro_rules | `(tactic| tm_at "ozE")=>`(tactic| first | with_reducible apply dw | fail)
local macro_rules | `(tactic| tm_at "ozE")=>`(tactic| first | with_reducible apply aK | fail)
local macro_rules | `(tactic| tm_at "ozE")=>`(tactic| first | with_reducible apply aW | fail)
local macro_rules | `(tactic| tm_at "ozE")=>`(tactic| first | with_reducible apply aa | fail)
local macro_rules | `(tactic| tm_at "ozE")=>`(tactic| first | with_reducible exact az | fail)
local macro_rules | `(tactic| tm_at "ozE")=>`(tactic| first | ((with_reducible apply v_var);exact rfl) | fail)
local macro_rules | `(tactic| tm_at "ozE")=>`(tactic| first | with_reducible exact aj | fail)
local macro_rules | `(tactic| tm_at "ozV")=>`(tactic| ((repeat' (tm_at "ozE"));done))
local macro_rules | `(tactic| tm_at "ozS")=>`(tactic| first | ((with_reducible apply w_raise);(focus (tm_at "ozV"));(focus (tm_at "ozX"))) | fail)
local macro_rules | `(tactic| tm_at "ozS")=>`(tactic| first | ((with_reducible apply abk);(focus (tm_at "ozV"));(focus (tm_at "ozB"))) | fail)
local macro_rules | `(tactic| tm_at "ozS")=>`(tactic| first | ((with_reducible apply w_ite1);(focus (tm_at "ozV"));(focus (tm_at "ozB"))) | fail)
local macro_rules | `(tactic| tm_at "ozS")=>`(tactic| first | ((with_reducible apply w_star);(focus (tm_at "ozV"));(focus (tm_at "ozO"));(focus (first | (simp only [aaH,List.set];exact rfl) | exact rfl));(focus (tm_at "ozSet"))) | fail)
local macro_rules | `(tactic| tm_at "ozS")=>`(tactic| first | ((with_reducible apply w_aug);exact rfl;(focus (tm_at "ozV"));(focus (tm_at "ozSet"))) | fail)
local macro_rules | `(tactic| tm_at "ozS")=>`(tactic| first | ((with_reducible apply w_par);(focus (tm_at "ozV"));(focus (tm_at "ozV"));(focus (tm_at "ozSet"));(focus (tm_at "ozSet"))) | fail)
local macro_rules | `(tactic| tm_at "ozS")=>`(tactic| first | with_reducible apply ae1 | fail)
local macro_rules | `(tactic| tm_at "ozS")=>`(tactic| first | with_reducible apply abW | fail)
local macro_rules | `(tactic| tm_at "ozS")=>`(tactic| first | ((with_reducible apply w_fcons);(focus (tm_at "ozSet"))) | fail)
local macro_rules | `(tactic| tm_at "ozS")=>`(tactic| first | with_reducible apply w_fnil | fail)
local macro_rules | `(tactic| tm_at "ozS")=>`(tactic| first | with_reducible apply w_fnilK | fail)
local macro_rules | `(tactic| tm_at "ozS")=>`(tactic| first | with_reducible apply w_nilL | fail)
local macro_rules | `(tactic| tm_at "ozS")=>`(tactic| first | ((with_reducible apply w_ex);(focus (tm_at "ozV"))) | fail)
local macro_rules | `(tactic| tm_at "ozS")=>`(tactic| first | with_reducible apply w_cnt | fail)
local macro_rules | `(tactic| tm_at "ozS")=>`(tactic| first | with_reducible apply w_brk | fail)
local macro_rules | `(tactic| tm_at "ozS")=>`(tactic| first | with_reducible apply w_pass | fail)
local macro_rules | `(tactic| tm_at "ozS")=>`(tactic| first | with_reducible apply w_retn | fail)
local macro_rules | `(tactic| tm_at "ozS")=>`(tactic| first | ((with_reducible apply agE);(focus (tm_at "ozV"))) | fail)
local macro_rules | `(tactic| tm_at "ozS")=>`(tactic| first | ((with_reducible apply afl);(focus (tm_at "ozV"))) | fail)
local macro_rules | `(tactic| tm_at "ozS")=>`(tactic| first | ((with_reducible apply w_asgT);(focus (tm_at "ozV"));exact rfl;dsimp only [List.set]) | fail)
local macro_rules | `(tactic| tm_at "ozS")=>`(tactic| first | ((with_reducible apply rY);(focus (tm_at "ozV"));(focus (tm_at "ozSet"))) | fail)
local macro_rules | `(tactic| tm_at "ozR")=>`(tactic| repeat (tm_at "ozS"))
local macro_rules | `(tactic| tm_at "ozF")=>`(tactic| (simp only [ZX,aea,efO,Vl.ef,Zg,Bool.and_self,Bool.and_true,Bool.true_and, *]))
namespace K04
open PySem L2 Oz
theorem sbT {m:Nat} {d c:Str} {w:Bool} (h:Yx d c=some w):(Mn m).sub d c=some w:=by rw [uJ];exact h
def wdA:Str:=(("BadName BadWeb Full BadText BadPoints BadRule Groundless BadItem BadRow ":Str)++("BadLoftName BadPage Shut NoName NoShape NoRow NoProgram NoNumber Taken Nothing":Str))
theorem afV {i:Nat} {z:Str} (h:(Txt.split wdA (" ":Str))[i]? =some z) (H:Hs):dM H (.lst ((Txt.split (("BadName BadWeb Full BadText BadPoints BadRule Groundless BadItem BadRow ":Str)++("BadLoftName BadPage Shut NoName NoShape NoRow NoProgram NoNumber Taken Nothing":Str)) (" ":Str)).map .str)) (.int i)=some (.str z):=jE (by rw [List.getElem?_map];exact congrArg (Option.map Vl.str) h)
def kcs:List Str:=["BadName","BadWeb","Full","BadText","BadPoints","BadRule","Groundless","BadItem","BadRow","BadLoftName","BadPage","Shut","NoName","NoShape","NoRow","NoProgram","NoNumber","Taken","Nothing"]
def ocs:List Str:=["OsierError","Missing","ValueError","LookupError","KeyError","IndexError"]
def kb (d c:Str):Bool:=(Yx d c).getD false
def aga:List Str→Es
 | []=>.nil
 | c::cs=>.cons (.xP c (.var 0)) (aga cs)
theorem Wc {m:Nat} {d:Str} {ns:List Str} {vs:List Vl} {η:Sg} (h0:η[0]? =some (some (.err d ns vs))) (S:Hs):∀ cs:List Str,(∀ c∈cs,Yx d c=some (kb d c))→evs (Mn m) (aga cs) η S=.ok (cs.map fun c=>Vl.bl (kb d c)) S
 | [],_=>az
 | c::cs,h=>aa (aeU (v_var h0) (sbT (h c List.mem_cons_self))) (Wc h0 S cs fun x hx=>h x (List.mem_cons_of_mem _ hx))
def ilL (i:Nat):List Vl:=[.bl (decide ((i:Int)<12)),.bl (decide ((11:Int)<i)&&decide ((i:Int)<17)),.bl (decide ((i:Int)<12)),.bl (decide ((i:Int)>11)),.bl (decide ((i:Int)=17)),.bl (decide ((i:Int)=18))]
theorem ajf {S:Hs} {a b:Int}:cmpop .Eq S (.int a) (.int b)=some (decide (a=b)):=by simp [cmpop,yh,Yt]
theorem ahd (m:Nat) {d z:Str} {ns:List Str} {vs:List Vl} {i:Nat} (hs:(kcs++ocs).all (fun c=>(Yx d c).isSome)=true) (hc:∀ S,Qc S (.lst (kcs.map fun c=>Vl.bl (kb d c))) (.bl true)=some (.int 1)) (hi:∀ S,yK S (.lst (kcs.map fun c=>Vl.bl (kb d c))) (.bl true)=some (.int (i:Nat))) (ho:∀ S,cmpop .Eq S (.lst (ocs.map fun c=>Vl.bl (kb d c))) (.lst (ilL i))=some true) (hz:(Txt.split wdA (" ":Str))[i]? =some z) {S:Hs} (hS:NR S):(Mn (m+1)).cal "_law_kin" [.err d ns vs] S=.ok (.val (.str z)) S:=by
 have hb:∀ c∈kcs++ocs,Yx d c=some (kb d c):=fun c hc=>by
  have:=List.all_eq_true.mp hs c hc
  unfold kb
  obtain ⟨b,e⟩:=Option.isSome_iff_exists.mp this
  rw [e];rfl
 have x:∀ (cs:List Str) (η:Sg) (S:Hs),η[0]? =some (some (.err d ns vs))→(∀ c∈cs,c∈kcs++ocs)→evs (Mn m) (aga cs) η S=.ok (cs.map fun c=>Vl.bl (kb d c)) S:=fun cs η S h0 h=>Wc h0 S cs fun c hc=>hb c (h c hc)
 have hx:=afV hz (S++[])
 rw [abl]
 refine ZK rfl hS rfl ?_
 show Ends (exec (Mn m) aaX [some (.err d ns vs),none,none,none,none,none] (S++[])) _
 generalize hk1:(fun c=>Vl.bl (kb d c))=f at x hc hi ho
 have ln:∀ cs:List Str,(cs.map f).length=cs.length:=fun cs=>List.length_map _
 refine rY (ju (rJ (x ["BadName","BadWeb","Full","BadText"] _ _ rfl (by decide+kernel)) rfl)) (by tm_at "ozSet") ?_
 refine rY (ju (Jv (v_var rfl) (ju (rJ (x ["BadPoints","BadRule","Groundless"] _ _ rfl (by decide+kernel)) rfl)) rfl rfl (Nat.le_of_ble_eq_true rfl) rfl)) (by tm_at "ozSet") ?_
 refine rY (ju (Jv (v_var rfl) (ju (rJ (x ["BadItem","BadRow","BadLoftName","BadPage"] _ _ rfl (by decide+kernel)) rfl)) rfl rfl (Nat.le_of_ble_eq_true rfl) rfl)) (by tm_at "ozSet") ?_
 refine rY (ju (Jv (v_var rfl) (ju (rJ (x ["Shut","NoName","NoShape","NoRow"] _ _ rfl (by decide+kernel)) rfl)) rfl rfl (Nat.le_of_ble_eq_true rfl) rfl)) (by tm_at "ozSet") ?_
 refine rY (ju (Jv (v_var rfl) (ju (rJ (x ["NoProgram","NoNumber","Taken","Nothing"] _ _ rfl (by decide+kernel)) rfl)) rfl rfl (Nat.le_of_ble_eq_true rfl) (zs:=kcs.map f) rfl)) (by tm_at "ozSet") ?_
 refine rY aj (by tm_at "ozSet") ?_
 refine rY (aW (v_var rfl) aj (eX (by decide+kernel))) (by tm_at "ozSet") ?_
 refine abk (aK (abR (v_var rfl) rfl aj (hc _)) aj rfl) rfl (abW ?_)
 refine rY (aay (v_var rfl) rfl aj (hi _)) (by tm_at "ozSet") ?_
 refine rY (ju (rJ (x ["OsierError","Missing","ValueError"] _ _ rfl (by decide+kernel)) rfl)) (by tm_at "ozSet") ?_
 refine rY (ju (Jv (v_var rfl) (ju (rJ (x ["LookupError","KeyError","IndexError"] _ _ rfl (by decide+kernel)) rfl)) rfl rfl (Nat.le_of_ble_eq_true rfl) (zs:=ocs.map f) rfl)) (by tm_at "ozSet") ?_
 refine rY (x:=.lst (ilL i)) (ju (rJ (aa (aK (v_var rfl) aj rfl) (aa (afj (d1:=decide ((11:Int)<i)) (d2:=decide ((i:Int)<17)) aj (v_var rfl) rfl aj rfl) (aa (aK (v_var rfl) aj rfl) (aa (aK (v_var rfl) aj rfl) (aa (aK (v_var rfl) aj ajf) (aa (aK (v_var rfl) aj ajf) az)))))) rfl)) (by tm_at "ozSet") ?_
 exact afl (aan (aK (v_var rfl) (v_var rfl) (ho _)) rfl (dw (ju (ye (v_var rfl) aj (by decide+kernel) (by decide+kernel))) (v_var rfl) hx)) ⟨_,[],rfl,rfl,rfl⟩
theorem ajH (m:Nat) {ns:List Str} {vs:List Vl} {S:Hs} (hS:NR S):(Mn (m+1)).cal "_law_kin" [.err "BadText" ns vs] S=.ok (.val (.str "BadText")) S:=ahd m (i:=3) (by decide+kernel) (fun _=>rfl) (fun _=>rfl) (fun _=>rfl) (by decide+kernel) hS
def vN (ld:dh) (it:Its):Vl:=(Pj ld it).inl
theorem Ms (ld:dh) (it:Its):(vN ld it).nr=true:=by simp only [vN,Pj,Ob.inl,Vl.nr,dH,yt,rP,Bool.and_self]
theorem jk (S:Hs) (ld:dh) (it:Its):lD S (vN ld it)=some (("Web":Str),(["leads","spots"]:List Str),[Vl.dct (ld.map fun p=>Sum.inr p.1) (ld.map fun p=>.int p.2),Vl.lst (aY it)]):=rfl
theorem vD {u v:Vl}:cG (["leads","spots"]:List Str) [u,v] "leads"=some u:=rfl
theorem vp {u v:Vl}:cG (["leads","spots"]:List Str) [u,v] "spots"=some v:=rfl
theorem nJ:∀ ld:dh,bQ (ld.map fun p=>(Sum.inr p.1:Key)) (ld.map fun p=>Vl.int p.2)=valN ld
 | []=>rfl
 | p::ld=>by
  have ih:=nJ ld
  unfold valN at ih ⊢
  simp only [List.map_cons,bQ,ih]
local macro_rules | `(tactic| tm_at "ozO")=>`(tactic| first | with_reducible exact jk _ _ _ | with_reducible exact vD | with_reducible exact vp | with_reducible exact nJ _ | with_reducible exact nin_ld | ((with_reducible apply ix_ldz);assumption))
local macro_rules | `(tactic| tm_at "ozX")=>`(tactic| first | exact nW _ | exact eG _ | exact xi_NoName _)
section
variable {ld:dh} {it:Its} {S:Hs}
theorem VB (n:Nat) (hS:NR S):(Mn (n+1)).cal (dot "Web" "name_rows") [vN ld it] S=.ok (.frs (.lst (valN ld))) S:=by
 rw [rW]
 refine ZS rfl hS rfl ?_
 show Ends (exec (Mn n) rR [some (vN ld it)] (S++[])) _
 tm_at "ozR"
 exact ⟨_,rfl,by simp only [Ob.nr,LR],.inl ⟨[],rfl⟩⟩
theorem Wk (n:Nat) (hS:NR S):(Mn (n+1)).cal (dot "Web" "item_rows") [vN ld it] S=.ok (.frs (.lst (aY it))) S:=by
 rw [sW]
 refine ZS rfl hS rfl ?_
 show Ends (exec (Mn n) su [some (vN ld it)] (S++[])) _
 tm_at "ozR"
 exact ⟨_,rfl,by simp only [Ob.nr,rP],.inl ⟨[],rfl⟩⟩
theorem ahy (n:Nat) (hS:NR S):(Mn (n+2)).cal "_law_told" [vN ld it] S=.ok (.val (rv ld it)) S:=by
 rw [Xi]
 refine ZK rfl hS rfl ?_
 show Ends (exec (Mn (n+1)) We [some (vN ld it)] (S++[])) _
 have c1:=VB (ld:=ld) (it:=it) n (hS.app (T:=[]) NR.nil)
 have c2:=Wk (ld:=ld) (it:=it) n (hS.app (T:=[]) NR.nil)
 tm_at "ozR"
 exact ⟨_,[],rfl,aaw _ _,rfl⟩
end
end K04
namespace K04
open PySem L2 Oz
local macro_rules | `(tactic| tm_at "ozO")=>`(tactic| first | with_reducible exact jk _ _ _ | with_reducible exact vD | with_reducible exact vp | with_reducible exact nJ _ | with_reducible exact nin_ld | ((with_reducible apply ix_ldz);assumption))
local macro_rules | `(tactic| tm_at "ozX")=>`(tactic| first | exact nW _ | exact eG _ | exact xi_NoName _)
theorem Z6 (n:Nat) {x:Vl} (h:x.pd=true) (hd:x.dep≤60) (hw:x.wt≤2 ^ 20) {S:Hs} (hS:NR S):(Mn (n+1)).cal "_law_same" [x,x] S=.ok (.val (.bl true)) S:=by
 rw [Xe]
 refine cY (T:=[]) rfl ?_ hS (by simp only [Vl.nr])
 show exec (Mn n) N5 [some x,some x] S=_
 obtain ⟨z,hz⟩:=adn S h hd hw
 rw [List.append_nil]
 unfold N5
 refine aq (bD S (afo (v_var rfl) (Qi S h)) aM) ?_
 exact bF (dI _ _ (oW (aK (v_var rfl) (v_var rfl) (show cmpop .Eq S _ _=some true from YG S h hd)) (aK (d:=true) (dG (v_var rfl) hz) (dG (v_var rfl) hz) (by simp only [cmpop,yh,Yt,decide_true]))))
section
variable {ld:dh} {it:Its} {S:Hs}
def anx (it:Its):Bool:=it.all fun p=>decide (p.1=("cell":Str))
end
end K04
namespace K04
open PySem L2 Oz
local macro_rules | `(tactic| tm_at "ozO")=>`(tactic| first | with_reducible exact jk _ _ _ | with_reducible exact vD | with_reducible exact vp | with_reducible exact nJ _ | with_reducible exact nin_ld | ((with_reducible apply ix_ldz);assumption))
local macro_rules | `(tactic| tm_at "ozX")=>`(tactic| first | exact nW _ | exact eG _ | exact xi_NoName _)
theorem acP {ts:List Int} (h:∀ t∈ts,-1≤t∧t≤13):Il (ts.map Vl.int)=true:=Ig fun x hx=>by
 obtain ⟨t,ht,rfl⟩:=List.mem_map.mp hx
 have:=h t ht
 simp only [Vl.pd];exact decide_eq_true (by omega)
theorem ab0 (ts:List Int):pY (ts.map Vl.int)≤0:=xW fun x hx=>by
 obtain ⟨t,_,rfl⟩:=List.mem_map.mp hx
 simp only [Vl.dep];omega
theorem acX (ts:List Int):Zi (ts.map Vl.int)≤ts.length* 21:=by
 have:=Ol (m:=20) (xs:=ts.map Vl.int) fun x hx=>by
  obtain ⟨t,_,rfl⟩:=List.mem_map.mp hx
  simp only [Vl.wt];omega
 rwa [List.length_map] at this
structure Dt (xs:List Vl):Prop where
 p:Il xs=true
 d:pY xs≤5
 w:Zi xs≤10000
section
variable {nm:dh} {it:Its}
theorem amg (h:Raw nm it) (i9:it.length≤13):Dt (valN nm):=by
 refine ⟨Ig fun x hx=> ?_,xW fun x hx=> ?_,Nat.le_trans (Ol (m:=40) fun x hx=> ?_) (by have:=h.fit.n6;rw [jT];omega)⟩<;>obtain ⟨p,hp,rfl⟩:=List.mem_map.mp hx
 ·have:=h.fit.ht p hp
  simp only [Vl.pd,Il,W7 (h.hw p hp).sm.2,Bool.and_true,Bool.true_and]
  exact decide_eq_true (by omega)
 ·simp only [Vl.dep,pY];omega
 ·have:p.1.length≤6:=(h.hw p hp).sm.1
  simp only [Vl.wt,Zi];omega
theorem al6 (h:Raw nm it) (i9:it.length≤13):Dt (aY it):=by
 refine ⟨Ig fun x hx=> ?_,xW fun x hx=> ?_,Nat.le_trans (Ol (m:=80) fun x hx=> ?_) (by rw [fQ];omega)⟩<;>obtain ⟨p,hp,rfl⟩:=List.mem_map.mp hx
 ·simp only [Vl.pd,Il,W7 (h.hi p hp).w.2,acP fun t ht=>by have:=(h.hi p hp).t t ht;omega,Bool.and_self]
 ·have:=ab0 p.2
  simp only [Vl.dep,pY];omega
 ·have:p.1.length≤8:=(h.hi p hp).w.1
  have:=acX p.2
  have:=(h.hi p hp).l
  simp only [Vl.wt,Zi];omega
theorem ajw (h:Raw nm it) (i9:it.length≤13):(rv nm it).pd=true∧(rv nm it).dep≤60∧(rv nm it).wt≤2 ^ 20:=by
 have a:=amg h i9
 have b:=al6 h i9
 have:=a.d;have:=b.d;have:=a.w;have:=b.w
 refine ⟨by simp only [rv,Vl.pd,Il,a.p,b.p,Bool.and_self],by simp only [rv,Vl.dep,pY];omega,by simp only [rv,Vl.wt,Zi];omega⟩
theorem afm (n:Nat) (h:Raw nm it) (XJ:it.length≤200) (hf:(ord nm it).length=it.length) {S:Hs} {nv iv:Vl} (hn:Sq S nv (valN nm)) (hi:Sq S iv (aY it)) (hS:NR S) {es:Es} {η:Sg} (hs:evs (Mn (n+3)) es η S=.ok [nv,iv] S) :
  d9 (Mn (n+3)) (.new "Web" es) η S=.ok (Pj (eO nm it) (iT nm it)) S:=by
 refine aiz hs hS (afH n ⟨fun p hp=>by have:=(h.hw p hp).hi;omega,by have:=h.fit.n6;omega,fun p hp=>by have:=(h.hi p hp).w.1;omega,fun p hp=>by have:=(h.hi p hp).l;omega,Nat.le_trans h.fit.i6 (by decide)⟩ XJ (fun i hi=> ?_) (fun q hq=> ?_) ?_ h.fit hf hn hi hS) (Vb _ _)
 ·have e:=List.getElem?_eq_getElem hi
  unfold iJ
  rw [e]
  simp only
  rw [aa3 (h.hw _ (List.getElem_mem hi)),Bool.true_and,decide_eq_true_eq]
  exact uL h.fit.nd (by rw [List.getElem?_map,e];rfl)
 ·unfold dZ
  rw [(h.hi q hq).k,Bool.true_and]
  exact List.all_eq_true.mpr fun t ht=>vm.mpr ((h.hi q hq).t t ht)
 ·exact List.all_eq_true.mpr fun p hp=>vm.mpr (h.fit.ht p hp)
end
end K04
namespace K04
open PySem L2 Oz
theorem Rj {y:List Nat} {b k:Nat} (hy:y.length≤k∧∀ c∈y,c<0x110000):∀ ps:List (List Nat),(∀ p∈ps,p.length≤b∧∀ c∈p,c<0x110000)→(TL.joinL y ps).length≤ps.length* (b+k)∧∀ c∈TL.joinL y ps,c<0x110000
 | [],_=>⟨by simp [TL.joinL],fun c h=>by simp [TL.joinL] at h⟩
 | [p],h=>by
  have hp:=h p List.mem_cons_self
  simp only [TL.joinL]
  exact ⟨by simp;omega,hp.2⟩
 | p::q::r,h=>by
  have hp:=h p List.mem_cons_self
  obtain ⟨i1,i2⟩:=Rj hy (q::r) fun x hx=>h x (List.mem_cons_of_mem _ hx)
  simp only [TL.joinL]
  refine ⟨?_,fun c hc=> ?_⟩
  ·rw [List.length_append,List.length_append]
   simp only [List.length_cons] at i1 ⊢
   have e:(r.length+1+1)* (b+k)=(r.length+1)* (b+k)+(b+k):=Nat.succ_mul _ _
   rw [e]
   have:=hp.1
   have:=hy.1
   omega
  ·rcases List.mem_append.mp hc with hc | hc
   ·exact hp.2 c hc
   ·rcases List.mem_append.mp hc with hc | hc
    ·exact hy.2 c hc
    ·exact i2 c hc
theorem Sm.join {b k:Nat} {y:Str} {ps:List Str} (hy:Sm k y) (h:∀ p∈ps,Sm b p):Sm (ps.length* (b+k)) (Txt.join y ps):=by
 have:=Rj (y:=y.cps.toList) hy (ps.map fun z=>z.cps.toList) fun p hp=>by
  obtain ⟨z,hz,rfl⟩:=List.mem_map.mp hp
  exact h z hz
 rw [List.length_map] at this
 rw [TL.join_eq]
 have e:=TL.tl_join y ps
 have e2:(Str.join y ps).cps.toList=TL.joinL y.cps.toList (ps.map fun z=>z.cps.toList):=e
 exact ⟨by show (Str.join y ps).cps.toList.length≤_;rw [e2];exact this.1,by rw [e2];exact this.2⟩
theorem qJ {S:Hs} {b k:Nat} {y:Str} {v:Vl} {ps:List Str} (hv:cV S v=some (ps.map .str)) (hy:Sm k y) (h:∀ p∈ps,Sm b p) (hb:ps.length* (b+k)≤1000000):yd .join S y v=some (.str (Txt.join y ps)):=by
 have all:∀ qs:List Str,uR (qs.map Vl.str)=some qs:=fun qs=>by
  induction qs with
  | nil=>rfl
  | cons q qs ih=>simp only [List.map_cons,uR,ih,Option.map_some]
 have sum:∀ qs:List Str,(∀ p∈qs,Sm b p)→(qs.map (·.length)).sum≤qs.length* b:=fun qs=>by
  induction qs with
  | nil=>intro _;simp
  | cons q qs ih=>
   intro h
   have h1:=(h q List.mem_cons_self).1
   have h2:=ih fun p hp=>h p (List.mem_cons_of_mem _ hp)
   simp only [List.map_cons,List.sum_cons,List.length_cons]
   rw [Nat.add_mul];omega
 unfold yd
 simp only [hv,Option.bind_some,all]
 have s:=sum ps h
 have m:ps.length* y.length≤ps.length* k:=Nat.mul_le_mul_left _ hy.1
 rw [Nat.mul_add] at hb
 rw [if_pos (by omega)]
def mk (t:Int):Str:=if t=0 then "-" else if t= -1 then "*" else ((toString t:String):Str)
theorem ahu:∀ k∈List.range 251,((toString ((k:Nat):Int):String):Str).length≤3∧∀ c∈((toString ((k:Nat):Int):String):Str).cps.toList,c<0x110000:=by decide+kernel
theorem Ht {t:Int} (h:0≤t∧t≤250):Sm 3 ((toString t:String):Str):=by
 obtain ⟨k,rfl⟩:=Int.eq_ofNat_of_zero_le h.1
 exact ahu k (List.mem_range.mpr (by omega))
theorem KN {t:Int} (h: -1≤t∧t≤250):Sm 3 (mk t):=by
 unfold mk
 split
 ·exact ⟨by decide,by decide⟩
 ·split
  ·exact ⟨by decide,by decide⟩
  ·exact Ht (by omega)
theorem str_int {S:Hs} {t:Int} (h: -1≤t∧t≤251):gY .str S (.int t)=some (.str ((toString t:String):Str)):=by
 refine if_pos ?_
 have:t.natAbs<10 ^ 6:=by omega
 have:=Av this
 omega
theorem abb (n:Nat) {t:Int} (h: -1≤t∧t≤250) {S:Hs} (hS:NR S):(Mn (n+1)).cal "mark" [.int t] S=.ok (.val (.str (mk t))) S:=by
 rw [aaR]
 refine cY (T:=[]) rfl ?_ hS (by simp only [Vl.nr])
 show exec (Mn n) aba [some (.int t)] S=_
 rw [List.append_nil]
 by_cases c:t=0
 ·subst c
  exact bF (cQ _ (aK (v_var rfl) aj rfl) (bF (dI _ _ aj)))
 ·refine aq (bD _ (aK (v_var rfl) aj (congrArg some (decide_eq_false c))) aM) (bF (dI _ _ ?_))
  unfold mk
  rw [if_neg c]
  by_cases d:t= -1
  ·rw [if_pos d]
   exact lW (aK (v_var rfl) aj (congrArg some (decide_eq_true d))) aj
  ·rw [if_neg d]
   exact qZ (aK (v_var rfl) aj (congrArg some (decide_eq_false d))) (dG (v_var rfl) (str_int (by omega)))
theorem V3 (n:Nat) {t:Int} (h: -1≤t∧t≤250) {S:Hs} (hS:NR S):(Mn (n+1)).cal "_law_mark" [.int t] S=.ok (.val (.str (mk t))) S:=by
 rw [VH]
 refine cY (T:=[]) rfl ?_ hS (by simp only [Vl.nr])
 show exec (Mn n) Wj [some (.int t)] S=_
 rw [List.append_nil]
 refine bF (dI _ _ ?_)
 unfold mk
 by_cases c:t=0
 ·rw [if_pos c]
  exact lW (aK (v_var rfl) aj (congrArg some (decide_eq_true c))) aj
 ·rw [if_neg c]
  refine qZ (aK (v_var rfl) aj (congrArg some (decide_eq_false c))) ?_
  by_cases d:t= -1
  ·rw [if_pos d]
   exact lW (aK (v_var rfl) aj (congrArg some (decide_eq_true (by omega)))) aj
  ·rw [if_neg d]
   exact qZ (aK (v_var rfl) aj (congrArg some (decide_eq_false (by omega)))) (dG (v_var rfl) (str_int (by omega)))
def wN (p:Str × Int):Str:=(p.1++("=":Str))++mk p.2
def inn (p:Str × List Int):Str:=Txt.join "," (p.2.map mk)
def wI (k:Int) (p:Str × List Int):Str:=(((((toString k:String):Str)++(":":Str))++p.1++("(":Str))++inn p)++(")":Str)
def Dd:Int→Its→List Str
 | _,[]=>[]
 | k,p::ps=>wI k p::Dd (k+1) ps
theorem kh:∀ (it:Its) (k:Int),(Dd k it).length=it.length
 | [],_=>rfl
 | p::ps,k=>by simp only [Dd,List.length_cons,kh ps]
theorem zY:∀ {it:Its} {k:Int} {i:Nat} {p:Str × List Int},it[i]? =some p→(Dd k it)[i]? =some (wI (k+i) p)
 | [],_,_,_,h=>by simp at h
 | q::ps,k,0,p,h=>by simp at h;subst h;simp [Dd]
 | q::ps,k,i+1,p,h=>by
  simp only [List.getElem?_cons_succ] at h
  simp only [Dd,List.getElem?_cons_succ]
  rw [zY h]
  congr 2
  omega
theorem Raw.t6 {ld:dh} {it:Its} (h:Raw ld it) {p:Str × Int} (hp:p∈ld): -1≤p.2∧p.2≤250:=by
 have:=h.fit.ht p hp
 have:=h.fit.i6
 omega
theorem Raw.i6 {ld:dh} {it:Its} (h:Raw ld it) {p:Str × List Int} (hp:p∈it):∀ t∈p.2,-1≤t∧t≤250:=fun t ht=>by
 have:=(h.hi p hp).t t ht
 have:=h.fit.i6
 omega
theorem aiK {p:Str × Int} (h:yH p.1) (k: -1≤p.2∧p.2≤250):Sm 10 (wN p):=(h.sm.app (b:=1) ⟨by decide,by decide⟩).app (KN k)
theorem Ul {many:Nat} {p:Str × List Int} (h:Item many p) (k:∀ t∈p.2,-1≤t∧t≤250):Sm 8 (inn p):=by
 have:=Sm.join (b:=3) (k:=1) (y:=",") (ps:=p.2.map mk) ⟨by decide,by decide⟩ fun z hz=>by
  obtain ⟨t,ht,rfl⟩:=List.mem_map.mp hz
  exact KN (k t ht)
 refine this.le ?_
 rw [List.length_map]
 have:=h.l
 omega
theorem aiP {many:Nat} {j:Int} {p:Str × List Int} (hj:0≤j∧j≤250) (h:Item many p) (k:∀ t∈p.2,-1≤t∧t≤250):Sm 22 (wI j p):=
 ((((((Ht hj).app (b:=1) ⟨by decide,by decide⟩).app h.w).app (b:=1) ⟨by decide,by decide⟩).app (Ul h k)).app (b:=1) ⟨by decide,by decide⟩).le (by omega)
def words (ld:dh) (it:Its):List Str:=ld.map wN++Dd 1 it
def txt (ld:dh) (it:Its):Str:=if words ld it=[] then "empty" else Txt.join " " (words ld it)
theorem Et {ld:dh} {it:Its} (h:Raw ld it):(∀ w∈words ld it,Sm 22 w)∧(words ld it).length≤256:=by
 refine ⟨fun w hw=> ?_,?_⟩
 ·rcases List.mem_append.mp hw with hw | hw
  ·obtain ⟨p,hp,rfl⟩:=List.mem_map.mp hw
   exact (aiK (h.hw p hp) (h.t6 hp)).le (by omega)
  ·obtain ⟨i,hi⟩:=List.getElem?_of_mem hw
   have hl:i<it.length:=by rw [← kh it 1];exact (List.getElem?_eq_some_iff.mp hi).1
   rw [zY (List.getElem?_eq_getElem hl)] at hi
   cases hi
   have:=h.fit.i6
   exact aiP (by omega) (h.hi _ (List.getElem_mem hl)) (h.i6 (List.getElem_mem hl))
 ·unfold words
  rw [List.length_append,List.length_map,kh]
  have:=h.fit.n6
  have:=h.fit.i6
  omega
theorem abQ {ld:dh} {it:Its} (h:Raw ld it):Sm 5888 (txt ld it):=by
 obtain ⟨h1,h2⟩:=Et h
 unfold txt
 split
 ·exact ⟨by decide,by decide⟩
 ·refine (Sm.join (b:=22) (k:=1) (y:=" ") ⟨by decide,by decide⟩ h1).le ?_
  exact Nat.mul_le_mul_right 23 h2
theorem empty_app (z:Str):Str.empty++z=z:=by
 show (⟨#[]++z.cps⟩:Str)=z
 simp
theorem sl {n:Nat} {z:Str} (h:Sm n z) (hn:n≤1000):z.length≤sizeLine:=Nat.le_trans h.1 (Nat.le_trans hn (by decide))
theorem uz {xs:List Vl} {aQ z:Str} {a b:Nat} (ha:Sm a aQ) (hz:Sm b z) (hb:a+b≤1000):qL (.str z::xs) aQ=qL xs (aQ++z):=by
 simp only [qL,zX]
 rw [if_pos (sl hz (by omega))]
 simp only
 rw [if_pos (sl (ha.app hz) hb)]
theorem agn {xs:List Vl} {aQ:Str} {t:Int} {a:Nat} (ha:Sm a aQ) (ht:0≤t∧t≤250) (hb:a+3≤1000):qL (.int t::xs) aQ=qL xs (aQ++((toString t:String):Str)):=by
 have:t.natAbs<10 ^ 6:=by omega
 have:=Av this
 simp only [qL,zX]
 rw [if_pos (by omega)]
 simp only
 rw [if_pos (sl (ha.app (Ht ht)) hb)]
theorem ain:Sm 0 Str.empty:=⟨by decide,by decide⟩
theorem adp (n:Nat) {ld:dh} (hw:∀ p∈ld,yH p.1) (ht:∀ p∈ld,-1≤p.2∧p.2≤250) (hl:ld.length≤1000) {b c d e f g h i:Option Vl} {S:Hs} (hS:NR S):d9 (Mn (n+1)) uO [some (.dct (ld.map fun p=>Sum.inr p.1) (ld.map fun p=>.int p.2)),b,c,d,e,f,g,h,i] S=.ok (.lst ((ld.map wN).map .str)) S:=by
 unfold uO
 have e0:(ld.map wN).map Vl.str=(bQ (ld.map fun p=>(Sum.inr p.1:Key)) (ld.map fun p=>Vl.int p.2)).map fun v=>match v with | .tup [.str z,.int t]=>.str (wN (z,t)) | _=>.non:=by
  rw [nJ]
  unfold valN
  rw [List.map_map,List.map_map]
  rfl
 rw [e0]
 refine aag _ rfl (by rw [List.length_map];omega) (fun x hx=> ?_) fun x hx aQ ha=> ?_
 ·rw [nJ] at hx
  obtain ⟨p,_,rfl⟩:=List.mem_map.mp hx
  simp only [Vl.nr]
 ·rw [nJ] at hx
  obtain ⟨p,hp,rfl⟩:=List.mem_map.mp hx
  refine ⟨_,rfl,ai5 (xs:=[.str p.1,.str "=",.str (mk p.2)]) (aa (v_var rfl) (aa aj (aa (bJ (r:=.val (.str (mk p.2))) (aa (v_var rfl) az) (abb n (ht p hp) (hS.one (by simpa only [Ob.nr] using ha)))) az))) ?_⟩
  rw [uz ain (hw p hp).sm (by omega),empty_app,uz (hw p hp).sm (b:=1) ⟨by decide,by decide⟩ (by omega),uz ((hw p hp).sm.app (b:=1) ⟨by decide,by decide⟩) (KN (ht p hp)) (by omega)]
  rfl
theorem T9 (n:Nat) {ld:dh} {it:Its} (h:Raw ld it) {S:Hs} (hS:NR S):(Mn (n+2)).cal "web_text" [.dct (ld.map fun p=>Sum.inr p.1) (ld.map fun p=>.int p.2),.lst (aY it)] S=.ok (.val (.str (txt ld it))) S:=by
 rw [Hg]
 obtain ⟨ws1,ws2⟩:=Et h
 have loop:∃ a5 a6 a7 a8,forL (fun η1 S2=>exec (Mn (n+1)) ux η1 S2) (.tp (.cons (.nm 5) (.cons (.tp (.cons (.nm 6) (.cons (.nm 7) .nil))) .nil))) [] (iH 1 (aY it)) [some (.dct (ld.map fun p=>Sum.inr p.1) (ld.map fun p=>.int p.2)),some (.lst (aY it)),some (.ref S.length),none,none,none,none,none,none] (S++[.lst ((ld.map wN).map .str)])
   =.nx [some (.dct (ld.map fun p=>Sum.inr p.1) (ld.map fun p=>.int p.2)),some (.lst (aY it)),some (.ref S.length),none,none,a5,a6,a7,a8] (S++[.lst ((words ld it).map .str)]):=by
  obtain ⟨η',S',h1,a5,a6,a7,a8,e1,e2⟩:=gW (body:=fun η1 S2=>exec (Mn (n+1)) ux η1 S2) (t:=.tp (.cons (.nm 5) (.cons (.tp (.cons (.nm 6) (.cons (.nm 7) .nil))) .nil))) (lk:=[]) (xs:=iH 1 (aY it)) (η:=[some (.dct (ld.map fun p=>Sum.inr p.1) (ld.map fun p=>.int p.2)),some (.lst (aY it)),some (.ref S.length),none,none,none,none,none,none]) (S:=S++[.lst ((ld.map wN).map .str)])
   (fun i η S'=>∃ a5 a6 a7 a8,η=[some (.dct (ld.map fun p=>Sum.inr p.1) (ld.map fun p=>.int p.2)),some (.lst (aY it)),some (.ref S.length),none,none,a5,a6,a7,a8]∧S'=S++[.lst ((ld.map wN++(Dd 1 it).take i).map .str)])
   ⟨none,none,none,none,rfl,by simp⟩ (fun i η S' _=>aU _) fun i x η S' hx ⟨a5,a6,a7,a8,e1,e2⟩=>by
    subst e1 e2
    obtain ⟨v,hv,rfl⟩:=pN hx
    obtain ⟨p,hp,rfl⟩:=V8 hv
    have Ut:=List.mem_of_getElem? hp
    have hpt:=h.i6 Ut
    have hI:=h.hi p Ut
    have Rw:i<it.length:=(List.getElem?_eq_some_iff.mp hp).1
    have h6:=h.fit.i6
    have h6n:=h.fit.n6
    have W8:NR (S++[.lst ((ld.map wN++(Dd 1 it).take i).map .str)]):=hS.one (by simp only [Ob.nr,lE])
    have hj:(0:Int)≤1+(i:Nat)∧(1:Int)+(i:Nat)≤250:=by omega
    have hq:d9 (Mn (n+1)) uQ [some (.dct (ld.map fun p=>Sum.inr p.1) (ld.map fun p=>.int p.2)),some (.lst (aY it)),some (.ref S.length),none,none,some (.int (1+(i:Nat))),some (.str p.1),some (.tup (p.2.map .int)),a8] (S++[.lst ((ld.map wN++(Dd 1 it).take i).map .str)])=.ok (.lst ((p.2.map mk).map .str)) (S++[.lst ((ld.map wN++(Dd 1 it).take i).map .str)]):=by
     unfold uQ
     have e0:(p.2.map mk).map Vl.str=(p.2.map Vl.int).map fun v=>match v with | .int t=>.str (mk t) | _=>.non:=by
      rw [List.map_map,List.map_map];rfl
     rw [e0]
     refine fM [] (p.2.map .int) _ (iG (v_var rfl) rfl) (aU _) (by rw [List.length_map];have:=hI.l;omega) (fun x hx=>by
      obtain ⟨t,_,rfl⟩:=List.mem_map.mp hx
      simp only [Vl.nr]) fun x hx aQ ha=> ?_
     obtain ⟨t,ht,rfl⟩:=List.mem_map.mp hx
     exact ⟨_,rfl,bJ (r:=.val (.str (mk t))) (aa (v_var rfl) az) (abb n (hpt t ht) (W8.one (by simpa only [Ob.nr] using ha)))⟩
    have hjn:yd .join (S++[.lst ((ld.map wN++(Dd 1 it).take i).map .str)]) "," (.lst ((p.2.map mk).map .str))=some (.str (inn p)):=qJ (b:=3) (k:=1) rfl ⟨by decide,by decide⟩ (fun z hz=>by
     obtain ⟨t,ht,rfl⟩:=List.mem_map.mp hz
     exact KN (hpt t ht)) (by rw [List.length_map];have:=hI.l;omega)
    have hin:=Ul hI hpt
    refine ⟨_,rfl,_,_,.inl (aq (bz _ _ (xG aj (du hq) hjn) rfl) (aq (NT _ _ (BR (k:=S.length) (ys:=(ld.map wN++(Dd 1 it).take i).map .str) (v_var rfl) (jo _ _) (aa (ai5 (xs:=[.int (1+(i:Nat)),.str ":",.str p.1,.str "(",.str (inn p),.str ")"]) (out:=wI (1+(i:Nat)) p) (aa (v_var rfl) (aa aj (aa (v_var rfl) (aa aj (aa (v_var rfl) (aa aj az)))))) ?_) az) List.getElem?_concat_length (lw ?_))) aM)),_,_,_,_,rfl,?_⟩
    ·have c1:Sm 1 (":":Str):=⟨by decide,by decide⟩
     have c2:Sm 1 ("(":Str):=⟨by decide,by decide⟩
     have c3:Sm 1 (")":Str):=⟨by decide,by decide⟩
     have k0:=Ht hj
     have k1:=k0.app c1
     have k2:=k1.app hI.w
     have k3:=k2.app c2
     have k4:=k3.app hin
     rw [agn ain hj (by omega),empty_app,uz k0 c1 (by omega),uz k1 hI.w (by omega),uz k2 c2 (by omega),uz k3 hin (by omega),uz k4 c3 (by omega)]
     rfl
    ·rw [List.length_map,List.length_append,List.length_map,List.length_take,kh];omega
    ·rw [iU,cO (zY hp)]
     simp
  subst e1
  rw [vA,fQ,List.take_of_length_le (by rw [kh];exact Nat.le_refl _)] at e2
  subst e2
  exact ⟨a5,a6,a7,a8,h1⟩
 obtain ⟨a5,a6,a7,a8,ab3⟩:=loop
 refine cY (T:=[.lst ((words ld it).map .str)]) rfl ?_ hS (by simp only [Vl.nr])
 show exec (Mn (n+1)) DR [some (.dct (ld.map fun p=>Sum.inr p.1) (ld.map fun p=>.int p.2)),some (.lst (aY it)),none,none,none,none,none,none,none] S=_
 have nU:gY .len (S++[.lst ((words ld it).map .str)]) (.ref S.length)=some (.int (words ld it).length):=by
  simp only [gY,aX,cV,List.getElem?_concat_length,Option.map_some,List.length_map]
 refine aq (bz _ _ (nY (adp n h.hw (fun p hp=>h.t6 hp) (by have:=h.fit.n6;omega) hS)) rfl) (aq (jJ _ _ _ (Gx (v_var rfl) rfl) ab3) (bF (dI _ _ ?_)))
 unfold txt
 by_cases c:words ld it=[]
 ·rw [if_pos c]
  exact qZ (aK (dG (v_var rfl) nU) aj (by rw [c];rfl)) aj
 ·rw [if_neg c]
  have hp:0<(words ld it).length:=List.length_pos_iff.mpr c
  refine lW (aK (dG (v_var rfl) nU) aj (congrArg some (decide_eq_true (by omega)))) (xG aj (v_var rfl) (qJ (b:=22) (k:=1) (by simp only [cV,List.getElem?_concat_length]) ⟨by decide,by decide⟩ ws1 (by omega)))
theorem Gi {xs:List Vl} {ds:List PyData} (h:tL xs=some ds):ds.isEmpty=xs.isEmpty:=by
 cases xs with
 | nil=>simp only [tL,Option.some.injEq] at h;subst h;rfl
 | cons x xs=>
  simp only [tL] at h
  split at h
  ·cases h;rfl
  ·cases h
theorem wV {S:Hs} {v:Vl} {xs:List Vl} (hv:dataOf S v=(Vl.lst xs).toD) (h:Il xs=true) (hd:pY xs≤50):ph S v (.lst [])=some xs.isEmpty:=by
 have p1:(Vl.lst xs).pd=true:=by simp only [Vl.pd];exact h
 have p2:(Vl.lst []).pd=true:=by simp only [Vl.pd,Il]
 obtain ⟨d1,e1,k1⟩:=CV _ p1
 obtain ⟨d2,e2,k2⟩:=uY S p2
 have d1':=k1.shaped (by simp only [Vl.dep];omega)
 have d2':=k2.shaped (by simp only [Vl.dep,pY];omega)
 unfold ph
 rw [hv,e1,e2]
 simp only
 rw [if_pos ⟨d1',d2'⟩]
 simp only [Vl.toD] at e1
 obtain ⟨ds,e3,rfl⟩:=Option.map_eq_some_iff.mp e1
 have f2:d2=.list []:=by
  unfold dataOf at e2
  rw [yu _ _ (Xk _ p2)] at e2
  simp only [Vl.toD,tL,Option.map_some,Option.some.injEq] at e2
  exact e2.symm
 subst f2
 rw [← Gi e3]
 cases ds<;>simp [PyData.eqv,PyData.eqvAll]
theorem eq_nil {S:Hs} {xs:List Vl} (h:Il xs=true) (hd:pY xs≤50):cmpop .Eq S (.lst xs) (.lst [])=some xs.isEmpty:=by
 simp only [cmpop]
 unfold yh
 simp only [Yt]
 rw [Nq _ rfl]
 simp only
 refine wV ?_ h hd
 unfold dataOf
 rw [yu _ _ (by simp only [Vl.nr];exact N6 _ h)]
theorem ahL {S:Hs} {r:Nat} {xs:List Vl} (hr:S[r]? =some (.lst xs)) (h:Il xs=true) (hd:pY xs≤50):cmpop .NotEq S (.ref r) (.lst [])=some (!xs.isEmpty):=by
 have e0:vR S (.ref r) (.lst [])=none:=Nq _ (by simp only [aX,hr])
 simp only [cmpop]
 rw [e0]
 simp only [Option.isSome_none,Bool.false_eq_true,if_false]
 unfold yh
 simp only [Yt]
 rw [e0]
 simp only
 rw [wV (xs:=xs) ?_ h hd]
 ·rfl
 ·unfold dataOf ajK rO
  simp only [Vl.dO,hr]
  rw [show (Ob.lst xs).inl=.lst xs from rfl,yu _ _ (by simp only [Vl.nr];exact N6 _ h)]
theorem sl2 {m n:Nat} {x y:Str} (h:Sm m x) (k:Sm n y) (hb:m+n≤1000):x.length+y.length≤sizeLine:=Nat.le_trans (Nat.add_le_add h.1 k.1) (Nat.le_trans hb (by decide))
theorem Wi (n:Nat) {ld:dh} {it:Its} (h:Raw ld it) {S:Hs} (hS:NR S):(Mn (n+2)).cal "_law_text" [rv ld it] S=.ok (.val (.str (txt ld it))) S:=by
 rw [Vf]
 obtain ⟨ws1,ws2⟩:=Et h
 have n6:=h.fit.n6
 have i6:=h.fit.i6
 have c0:Sm 1 ("=":Str):=⟨by decide,by decide⟩
 have c1:Sm 1 (":":Str):=⟨by decide,by decide⟩
 have c2:Sm 1 ("(":Str):=⟨by decide,by decide⟩
 have c3:Sm 1 (")":Str):=⟨by decide,by decide⟩
 have names:d9 (Mn (n+1)) Gp [some (rv ld it),none,none,none,none,none,none,none] S=.ok (.lst ((ld.map wN).map .str)) S:=by
  unfold Gp
  have e0:(ld.map wN).map Vl.str=(valN ld).map fun v=>match v with | .tup [.str z,.int t]=>.str (wN (z,t)) | _=>.non:=by
   unfold valN
   rw [List.map_map,List.map_map];rfl
  rw [e0]
  refine fM [] (valN ld) _ (iG (dw (v_var rfl) aj (ix_tup (i:=0) rfl)) rfl) (aU S) (by rw [jT];omega) (fun x hx=>by
   obtain ⟨p,_,rfl⟩:=List.mem_map.mp hx
   simp only [Vl.nr]) fun x hx aQ ha=> ?_
  obtain ⟨p,hp,rfl⟩:=List.mem_map.mp hx
  have hw:=(h.hw p hp).sm
  exact ⟨_,rfl,aW (aW (v_var rfl) aj (eX (sl2 hw c0 (by omega)))) (bJ (r:=.val (.str (mk p.2))) (aa (v_var rfl) az) (V3 n (h.t6 hp) (hS.one (by simpa only [Ob.nr] using ha)))) (eX (sl2 (hw.app c0) (KN (h.t6 hp)) (by omega)))⟩
 have loop:∃ a4 a5 a6,forL (fun η1 S2=>exec (Mn (n+1)) Hm η1 S2) (.nm 4) [] (jd 0 it.length) [some (rv ld it),some (.ref S.length),none,none,none,none,none,none] (S++[.lst ((ld.map wN).map .str)])
   =.nx [some (rv ld it),some (.ref S.length),none,none,a4,a5,a6,none] (S++[.lst ((words ld it).map .str)]):=by
  obtain ⟨η',S',g1,a4,a5,a6,e1,e2⟩:=gW (body:=fun η1 S2=>exec (Mn (n+1)) Hm η1 S2) (t:=.nm 4) (lk:=[]) (xs:=jd 0 it.length) (η:=[some (rv ld it),some (.ref S.length),none,none,none,none,none,none]) (S:=S++[.lst ((ld.map wN).map .str)])
   (fun i η S'=>∃ a4 a5 a6,η=[some (rv ld it),some (.ref S.length),none,none,a4,a5,a6,none]∧S'=S++[.lst ((ld.map wN++(Dd 1 it).take i).map .str)])
   ⟨none,none,none,rfl,by simp⟩ (fun i η S' _=>aU _) fun i x η S' hx ⟨a4,a5,a6,e1,e2⟩=>by
    subst e1 e2
    obtain ⟨hi,rfl⟩:=qI hx
    have hp:it[i]? =some it[i]:=List.getElem?_eq_getElem hi
    have Ut:=List.getElem_mem hi
    generalize it[i]=p at hp Ut
    have hpt:=h.i6 Ut
    have hI:=h.hi p Ut
    have W8:NR (S++[.lst ((ld.map wN++(Dd 1 it).take i).map .str)]):=hS.one (by simp only [Ob.nr,lE])
    have hj:(0:Int)≤1+(i:Nat)∧(1:Int)+(i:Nat)≤250:=by omega
    have hq:d9 (Mn (n+1)) Dy [some (rv ld it),some (.ref S.length),none,none,some (.int i),some (.str p.1),some (.tup (p.2.map .int)),none] (S++[.lst ((ld.map wN++(Dd 1 it).take i).map .str)])=.ok (.lst ((p.2.map mk).map .str)) (S++[.lst ((ld.map wN++(Dd 1 it).take i).map .str)]):=by
     unfold Dy
     have e0:(p.2.map mk).map Vl.str=(p.2.map Vl.int).map fun v=>match v with | .int t=>.str (mk t) | _=>.non:=by
      rw [List.map_map,List.map_map];rfl
     rw [e0]
     refine fM [] (p.2.map .int) _ (iG (v_var rfl) rfl) (aU _) (by rw [List.length_map];have:=hI.l;omega) (fun x hx=>by
      obtain ⟨t,_,rfl⟩:=List.mem_map.mp hx
      simp only [Vl.nr]) fun x hx aQ ha=> ?_
     obtain ⟨t,ht,rfl⟩:=List.mem_map.mp hx
     exact ⟨_,rfl,bJ (r:=.val (.str (mk t))) (aa (v_var rfl) az) (V3 n (hpt t ht) (W8.one (by simpa only [Ob.nr] using ha)))⟩
    have hjn:yd .join (S++[.lst ((ld.map wN++(Dd 1 it).take i).map .str)]) "," (.lst ((p.2.map mk).map .str))=some (.str (inn p)):=qJ (b:=3) (k:=1) rfl ⟨by decide,by decide⟩ (fun z hz=>by
     obtain ⟨t,ht,rfl⟩:=List.mem_map.mp hz
     exact KN (hpt t ht)) (by rw [List.length_map];have:=hI.l;omega)
    have hin:=Ul hI hpt
    have k0:=Ht hj
    have k1:=k0.app c1
    have k2:=k1.app hI.w
    have k3:=k2.app c2
    have k4:=k3.app hin
    have ej:((i:Int)+1)=1+(i:Nat):=Int.add_comm _ _
    have ix:dM (S++[.lst ((ld.map wN++(Dd 1 it).take i).map .str)]) (.lst (aY it)) (.int i)=some (.tup [.str p.1,.tup (p.2.map .int)]):=jE (pM hp)
    refine ⟨_,rfl,_,_,.inl (aq (bz _ _ (dw (dw (v_var rfl) aj (ix_tup (i:=1) rfl)) (v_var rfl) ix) rfl) (aq (NT _ _ (BR (k:=S.length) (ys:=(ld.map wN++(Dd 1 it).take i).map .str) (v_var rfl) (jo _ _) (aa (x:=.str (wI (1+(i:Nat)) p)) (aW (aW (aW (aW (aW (dG (aW (v_var rfl) aj (fj _ _)) (by rw [ej];exact str_int (by omega))) aj (eX (sl2 k0 c1 (by omega)))) (v_var rfl) (eX (sl2 k1 hI.w (by omega)))) aj (eX (sl2 k2 c2 (by omega)))) (xG aj (du hq) hjn) (eX (sl2 k3 hin (by omega)))) aj (eX (sl2 k4 c3 (by omega)))) az) List.getElem?_concat_length (lw ?_))) aM)),_,_,_,rfl,?_⟩
    ·rw [List.length_map,List.length_append,List.length_map,List.length_take,kh];omega
    ·rw [iU,cO (zY hp)]
     simp
  subst e1
  rw [gU,List.take_of_length_le (by rw [kh];exact Nat.le_refl _)] at e2
  subst e2
  exact ⟨a4,a5,a6,g1⟩
 obtain ⟨a4,a5,a6,hlp⟩:=loop
 refine cY (T:=[.lst ((words ld it).map .str)]) rfl ?_ hS (by simp only [Vl.nr])
 show exec (Mn (n+1)) VJ [some (rv ld it),none,none,none,none,none,none,none] S=_
 have pd:Il ((words ld it).map Vl.str)=true:=Ig fun x hx=>by
  obtain ⟨w,hw,rfl⟩:=List.mem_map.mp hx
  simp only [Vl.pd];exact W7 (ws1 w hw).2
 have dp:pY ((words ld it).map Vl.str)≤0:=xW fun x hx=>by
  obtain ⟨w,hw,rfl⟩:=List.mem_map.mp hx
  simp only [Vl.dep];omega
 have ne:=ahL (S:=S++[.lst ((words ld it).map .str)]) (r:=S.length) List.getElem?_concat_length pd (by omega)
 refine aq (bz _ _ (nY names) rfl) (aq (jJ _ _ _ (mD (k:=it.length) (dG (dw (v_var rfl) aj (ix_tup (i:=1) rfl)) (by rw [mJ,fQ])) (by omega)) hlp) (bF (dI _ _ ?_)))
 unfold txt
 by_cases c:words ld it=[]
 ·rw [if_pos c]
  rw [c] at ne ⊢
  exact qZ (aK (v_var rfl) (du (lK az (show 0≤1000000 by decide))) ne) aj
 ·rw [if_neg c]
  have e:((words ld it).map Vl.str).isEmpty=false:=by
   cases hw:words ld it with
   | nil=>exact absurd hw c
   | cons w ws=>rfl
  rw [e] at ne
  refine lW (aK (v_var rfl) (du (lK az (show 0≤1000000 by decide))) ne) (xG aj (v_var rfl) (qJ (b:=22) (k:=1) (by simp only [cV,List.getElem?_concat_length]) ⟨by decide,by decide⟩ ws1 (by omega)))
end K04
namespace K04
open PySem L2 Oz
theorem eqZ {S:Hs} {a b:Str}:cmpop .Eq S (.str a) (.str b)=some (decide (a=b)):=by simp [cmpop,yh,Yt]
theorem neZ {S:Hs} {a b:Str}:cmpop .NotEq S (.str a) (.str b)=some (!decide (a=b)):=rfl
def fig:Str:="0123456789"
def Jy (c:Nat):Bool:=decide (c∈fig.cps.toList)
def digs (z:Str):Bool:=z.cps.toList.all Jy
theorem alu:∀ a∈List.range 10,(intText? ⟨#[48+a]⟩).isSome=true:=by decide+kernel
theorem alv:∀ a∈List.range 10,∀ b∈List.range 10,(intText? ⟨#[48+a,48+b]⟩).isSome=true:=by decide+kernel
theorem alj:∀ a∈List.range 10,∀ b∈List.range 10,∀ c∈List.range 10,(intText? ⟨#[48+a,48+b,48+c]⟩).isSome=true:=by decide+kernel
theorem zL {c:Nat} (h:Jy c=true):∃ a∈List.range 10,c=48+a:=by
 have h:=of_decide_eq_true h
 have e:fig.cps.toList=[48,49,50,51,52,53,54,55,56,57]:=by decide+kernel
 rw [e] at h
 exact ⟨c - 48,List.mem_range.mpr (by simp at h;omega),by simp at h;omega⟩
theorem int_ok {w:Str} (h1:1≤w.length) (h3:w.length≤3) (hd:digs w=true):∃ v,intText? w=some v:=by
 refine Option.isSome_iff_exists.mp ?_
 obtain ⟨⟨l⟩⟩:=w
 have hd:∀ c∈l,Jy c=true:=List.all_eq_true.mp hd
 have h1:1≤l.length:=h1
 have h3:l.length≤3:=h3
 match l,h1,h3,hd with
 | [a],_,_,hd=>
  obtain ⟨i,hi,rfl⟩:=zL (hd a (by simp))
  exact alu i hi
 | [a,b],_,_,hd=>
  obtain ⟨i,hi,rfl⟩:=zL (hd a (by simp))
  obtain ⟨j,hj,rfl⟩:=zL (hd b (by simp))
  exact alv i hi j hj
 | [a,b,c],_,_,hd=>
  obtain ⟨i,hi,rfl⟩:=zL (hd a (by simp))
  obtain ⟨j,hj,rfl⟩:=zL (hd b (by simp))
  obtain ⟨k,hk,rfl⟩:=zL (hd c (by simp))
  exact alj i hi j hj k hk
def rm (w:Str):Option Int:=if w="-" then some 0 else if w="*" then some (-1) else if (1≤w.length∧w.length≤3)∧digs w=true then intText? w else none
def fFg (x:Vl):Vl:=match x with
 | .str s=>.bl (Jy (s.cps.getD 0 0))
 | _=>.non
theorem abn (z:Str):(iI z).map fFg=z.cps.toList.map fun c=>Vl.bl (Jy c):=by
 unfold iI
 rw [List.map_map]
 rfl
theorem ahz (n:Nat) {z:Str} (hz:z.length≤1000) {a:Option Vl} (S:Hs):d9 (Mn n) jH [some (.str z),a] S=.ok (.lst (z.cps.toList.map fun c=>.bl (Jy c))) S:=by
 rw [← abn]
 unfold jH
 refine fM [] (iI z) fFg (zB (v_var rfl)) (aU S) (by rw [wX];omega) (fun x hx=> ?_) fun x hx aQ _=> ?_
 ·obtain ⟨d,_,rfl⟩:=jX hx
  simp only [fFg,Vl.nr]
 ·obtain ⟨d,_,rfl⟩:=jX hx
  refine ⟨_,rfl,aK (v_var rfl) aj ?_⟩
  simp only [cmpop,lU]
  rw [if_pos (show (⟨#[d]⟩:Str).length=1 from rfl)]
  rfl
def bt:Xc:=⟨"BadText",none⟩
theorem V1 (n:Nat) {w:Str} (hw:w.length≤1000) {S:Hs} (hS:NR S):(Mn (n+1)).cal "read_mark" [.str w] S=match rm w with | some v=>.ok (.val (.int v)) S | none=>.exc bt S:=by
 rw [BX]
 have hl:gY .len S (.str w)=some (.int w.length):=if_pos (jf (by omega))
 unfold rm
 by_cases c0:w="-"
 ·rw [if_pos c0]
  refine cY (T:=[]) rfl ?_ hS (by simp only [Vl.nr])
  show exec (Mn n) jx [some (.str w),none] S=_
  rw [List.append_nil]
  exact bF (cQ _ (aK (v_var rfl) aj (eqZ.trans (congrArg some (decide_eq_true c0)))) (bF (dI _ _ aj)))
 rw [if_neg c0]
 have z0:aP (Mn n) (.ite (.cmp .Eq (.var 0) (.cst (.str "-"))) (.cons (.ret (.cst (.int 0))) .nil) .nil) [some (.str w),none] S=.nx [some (.str w),none] S:=bD _ (aK (v_var rfl) aj (eqZ.trans (congrArg some (decide_eq_false c0)))) aM
 by_cases c1:w="*"
 ·rw [if_pos c1]
  refine cY (T:=[]) rfl ?_ hS (by simp only [Vl.nr])
  show exec (Mn n) jx [some (.str w),none] S=_
  rw [List.append_nil]
  exact aq z0 (bF (cQ _ (aK (v_var rfl) aj (eqZ.trans (congrArg some (decide_eq_true c1)))) (bF (dI _ _ aj))))
 rw [if_neg c1]
 have z1:aP (Mn n) (.ite (.cmp .Eq (.var 0) (.cst (.str "*"))) (.cons (.ret (.cst (.int (-1)))) .nil) .nil) [some (.str w),none] S=.nx [some (.str w),none] S:=bD _ (aK (v_var rfl) aj (eqZ.trans (congrArg some (decide_eq_false c1)))) aM
 -- the test
 have tst:ev (Mn n) (.bor (.pK (.Ru .LtE .LtE (.cst (.int 1)) (.b1 .len (.var 0)) (.cst (.int 3)))) (.pK (.b1 .all (.inl jH)))) [some (.str w),none] S=.ok (.bl (!decide ((1≤w.length∧w.length≤3)∧digs w=true))) S:=by
  by_cases l1:1≤w.length
  ·by_cases l3:w.length≤3
   ·have h1:ev (Mn n) (.pK (.Ru .LtE .LtE (.cst (.int 1)) (.b1 .len (.var 0)) (.cst (.int 3)))) [some (.str w),none] S=.ok (.bl false) S:=jK (d:=true) (Ks (d1:=true) aj (dG (v_var rfl) hl) (congrArg some (decide_eq_true (by omega))) aj (congrArg some (decide_eq_true (by omega))))
    refine uE h1 ?_
    have h2:ev (Mn n) (.b1 .all (.inl jH)) [some (.str w),none] S=.ok (.bl (digs w)) S:=dG (du (ahz n (by omega) S)) (Dh S _ _)
    rw [jK h2]
    cases digs w<;>simp [l1,l3]
   ·rw [show decide ((1≤w.length∧w.length≤3)∧digs w=true)=false from decide_eq_false (by omega)]
    exact Ra (jK (d:=false) (Ks (d1:=true) aj (dG (v_var rfl) hl) (congrArg some (decide_eq_true (by omega))) aj (congrArg some (decide_eq_false (by omega)))))
  ·rw [show decide ((1≤w.length∧w.length≤3)∧digs w=true)=false from decide_eq_false (by omega)]
   exact Ra (jK (d:=false) (LC aj (dG (v_var rfl) hl) (congrArg some (decide_eq_false (by omega)))))
 by_cases c2:(1≤w.length∧w.length≤3)∧digs w=true
 ·rw [if_pos c2]
  obtain ⟨v,hv⟩:=int_ok c2.1.1 c2.1.2 c2.2
  rw [hv]
  refine cY (T:=[]) rfl ?_ hS (by simp only [Vl.nr])
  show exec (Mn n) jx [some (.str w),none] S=_
  rw [List.append_nil]
  rw [decide_eq_true c2] at tst
  refine aq z0 (aq z1 (aq (bD _ tst aM) (bF (dI _ _ (dG (v_var rfl) ?_)))))
  simp only [gY]
  rw [if_pos (Nat.le_trans c2.1.2 (by decide)),hv];rfl
 ·rw [if_neg c2]
  obtain ⟨x,rfl,e⟩:=aeZ (M:=Mn n) (d:=uM) (xs:=[.str w]) (·=bt) rfl hS (by
   show Ends (exec (Mn n) jx [some (.str w),none] (S++[])) _
   rw [List.append_nil]
   rw [decide_eq_false c2] at tst
   have ex:exec (Mn n) jx [some (.str w),none] S=.exc bt [some (.str w),none] S:=aq z0 (aq z1 (cA (cQ _ tst (cA (by simp only [aP,evs,Res.out,gQ,List.length_nil,Nat.zero_le,if_true];rfl)))))
   rw [ex]
   exact ⟨bt,_,[],by rw [List.append_nil],fun ns vs e=>(by cases e),rfl⟩)
  exact e
def Zb:List Str→Option (List Int)
 | []=>some []
 | w::ws=>match rm w with
  | some v=>(Zb ws).map (v::·)
  | none=>none
theorem Vo:∀ {ws:List Str} {vs:List Int},Zb ws=some vs→vs.length=ws.length
 | [],vs,h=>by cases h;rfl
 | w::ws,vs,h=>by
  simp only [Zb] at h
  cases e:rm w with
  | none=>rw [e] at h;cases h
  | some v=>
   rw [e] at h
   simp only [Option.map_eq_some_iff] at h
   obtain ⟨us,h1,rfl⟩:=h
   simp only [List.length_cons,Vo h1]
noncomputable def stM (n:Nat) (η:Sg) (x:Vl) (S2:Hs):Res (Option Vl):=match aZ (.nm 5) x (bR η [5]) with
 | none=>.bad
 | some η1=>(ev (Mn (n+1)) (.call "read_mark" (.cons (.var 5) .nil)) η1 S2).bind fun y S4=>.ok (some y) S4
theorem agQ (n:Nat) {w:Str} (hw:w.length≤1000) {S:Hs} (hS:NR S) (a b c d e f:Option Vl):stM n [a,b,c,d,e,f] (.str w) S=match rm w with | some v=>.ok (some (.int v)) S | none=>.exc bt S:=by
 unfold stM
 rw [show aZ (.nm 5) (.str w) (bR [a,b,c,d,e,f] [5])=some [a,b,c,d,e,some (.str w)] from rfl]
 have hc:=V1 n hw hS
 cases er:rm w with
 | none=>
  rw [er] at hc
  simp only
  rw [xV (aa (v_var rfl) az) hc]
  rfl
 | some v=>
  rw [er] at hc
  simp only
  rw [bJ (aa (v_var rfl) az) hc]
  rfl
theorem Ph (n:Nat) {S:Hs} (hS:NR S) (a b c d e f:Option Vl):∀ (ws:List Str) (aQ:List Int),(∀ w∈ws,w.length≤1000)→aQ.length+ws.length≤10000→
  nZ (stM n [a,b,c,d,e,f]) [] (ws.map .str) (aQ.map .int) S=match Zb ws with
   | some vs=>.ok ((aQ++vs).map .int) S
   | none=>.exc bt S
 | [],aQ,_,_=>by
  simp only [List.map_nil,nZ]
  rw [if_pos (aU S)]
  simp only [Zb,List.append_nil]
 | w::ws,aQ,hw,hl=>by
  have W8:NR (S++[.lst (aQ.map .int)]):=hS.one (by simp only [Ob.nr,dU])
  have hc:=agQ n (hw w List.mem_cons_self) W8 a b c d e f
  simp only [List.map_cons,nZ]
  rw [if_pos (aU S)]
  simp only [Zb]
  cases er:rm w with
  | none=>
   rw [er] at hc
   rw [hc]
   simp only
   rw [if_pos ⟨trivial,rfl⟩]
  | some v=>
   rw [er] at hc
   rw [hc]
   simp only
   have hz:(10000:Nat)<sizeLine:=by decide
   rw [if_pos ⟨trivial,by rw [List.length_map];simp only [List.length_cons] at hl;omega⟩]
   rw [if_pos (show (Vl.int v).lim S.length=true by simp [Vl.lim])]
   have ih:=Ph n hS a b c d e f ws (aQ++[v]) (fun z hz=>hw z (List.mem_cons_of_mem _ hz)) (by simp only [List.length_append,List.length_cons,List.length_nil] at hl ⊢;omega)
   rw [List.map_append,List.map_cons,List.map_nil] at ih
   rw [ih]
   cases Zb ws with
   | none=>rfl
   | some vs=>simp only [Option.map_some,List.append_assoc,List.cons_append,List.nil_append]
end K04
namespace K04
open PySem L2 Oz
theorem ZD (S:List Nat):∀ (l aQ:List Nat) {a b:List Nat},TL.par S aQ l=some (a,b)→a.length+b.length≤aQ.length+l.length
 | [],_,_,_,h=>by simp [TL.par] at h
 | c::r,aQ,a,b,h=>by
  unfold TL.par at h
  split at h
  ·cases h
   simp only [List.length_drop,List.length_cons];omega
  ·have:=ZD S r (aQ++[c]) h
   simp only [List.length_append,List.length_cons,List.length_nil] at this ⊢
   omega
theorem Od (x:Str):(TL.tl x).length=x.length:=(TL.len_tl x).symm
theorem vq (x y:Str) (hy:TL.tl y≠[]):(Txt.partition x y).1.length≤x.length∧(Txt.partition x y).2.2.length≤x.length:=by
 rw [TL.partition_par x y hy]
 have hx:=Od x
 cases e:TL.par (TL.tl y) [] (TL.tl x) with
 | none=>exact ⟨Nat.le_refl _,Nat.zero_le _⟩
 | some p=>
  obtain ⟨a,b⟩:=p
  have:=ZD _ _ _ e
  simp only [List.length_nil] at this
  have ha:(⟨a.toArray⟩:Str).length=a.length:=by simp [Str.length]
  have hb:(⟨b.toArray⟩:Str).length=b.length:=by simp [Str.length]
  simp only
  rw [ha,hb]
  omega
theorem OD (S:List Nat):∀ (ps:List (List Nat)) (p:List Nat),p∈ps→p.length≤(TL.joinL S ps).length
 | [],_,h=>by cases h
 | [q],p,h=>by
  rw [List.mem_singleton.mp h];exact Nat.le_refl _
 | q::r::t,p,h=>by
  simp only [TL.joinL,List.length_append]
  rcases List.mem_cons.mp h with rfl | h
  ·omega
  ·have:=OD S (r::t) p h
   omega
theorem yW {x y p:Str} (h:p∈Txt.split x y):p.length≤x.length:=by
 have e:=TL.tl_join y (Txt.split x y)
 rw [PySem.StrLaws.join_split] at e
 have:=OD (TL.tl y) _ (TL.tl p) (List.mem_map_of_mem h)
 rw [← e,Od,Od] at this
 exact this
theorem DK (z:Str) (lo hi:Option Int):(cutS z lo hi).length≤z.length:=by
 unfold cutS
 show (List.toArray _).size≤z.cps.size
 rw [List.size_toArray,List.length_take,List.length_drop,Array.length_toList]
 omega
section
variable {M:aF} {a b:E} {η:Sg} {S S1 S2:Hs} {z w:Str}
theorem T7 (ha:ev M a η S=.ok (.str z) S1) (hb:ev M b η S1=.ok (.str w) S2) (hw:w.length≠0) (hz:z.length≤1000000):ev M (.tm .part a b) η S=.ok (.tup [.str (Txt.partition z w).1,.str (Txt.partition z w).2.1,.str (Txt.partition z w).2.2]) S2:=by
 simp only [ev,ha,hb,Res.bind,ig,yd]
 rw [if_pos ⟨hw,jf hz⟩]
theorem PL {lo hi:Option Int} (hz:z.length≤1000000):HS (.str z) lo hi=some (.str (cutS z lo hi)):=if_pos (jf hz)
end
def WD (z:Str):Str:=cutS z (some (-1)) none
def fD (z:Str):Str:=cutS z none (some (-1))
def ri (t:Str):Option (Str × List Int):=
 if (Txt.partition t "(").2.1="" then none else if WD (Txt.partition t "(").2.2=")" then
  (if fD (Txt.partition t "(").2.2="" then some ((Txt.partition t "(").1,[]) else (Zb (Txt.split (fD (Txt.partition t "(").2.2) ",")).map fun vs=>((Txt.partition t "(").1,vs))
 else none
theorem ai0 {t:Str} {p:Str × List Int} (h:ri t=some p):p.1.length≤t.length∧p.2.length≤t.length+2:=by
 have hp:=vq t "(" (by decide)
 unfold ri at h
 split at h
 ·cases h
 ·split at h
  ·split at h
   ·cases h
    exact ⟨hp.1,Nat.zero_le _⟩
   ·simp only [Option.map_eq_some_iff] at h
    obtain ⟨vs,h1,rfl⟩:=h
    refine ⟨hp.1,?_⟩
    have e:=Vo h1
    have:=PyProof.Rows.split_le (fD (Txt.partition t "(").2.2) ","
    have:=DK (Txt.partition t "(").2.2 none (some (-1))
    show vs.length≤_
    unfold fD at *
    have:=hp.2
    omega
  ·cases h
theorem acW (n:Nat) {t:Str} (ht:t.length≤1000) {S:Hs} (hS:NR S):(Mn (n+2)).cal "read_item" [.str t] S=match ri t with | some p=>.ok (.val (.tup [.str p.1,.tup (p.2.map .int)])) S | none=>.exc bt S:=by
 rw [Bu]
 have hp:=vq t "(" (by decide)
 unfold ri
 generalize hP:Txt.partition t "("=P at hp
 obtain ⟨wd,br,rest⟩:=P
 simp only at hp ⊢
 have z0:aP (Mn (n+1)) (.asg (.tp (.cons (.nm 1) (.cons (.nm 2) (.cons (.nm 3) .nil)))) (.tm .part (.var 0) (.cst (.str "(")))) [some (.str t),none,none,none,none,none] S=.nx [some (.str t),some (.str wd),some (.str br),some (.str rest),none,none] S:=by
  refine bz _ _ (T7 (v_var rfl) aj (by decide) (by omega)) ?_
  rw [hP];rfl
 have sl:ev (Mn (n+1)) (.Cu (.var 3) (.some (.neg (.cst (.int 1)))) .none) [some (.str t),some (.str wd),some (.str br),some (.str rest),none,none] S=.ok (.str (WD rest)) S:=Br (v_var rfl) (qF (W9 aj)) qC (PL (by omega))
 have bad:∀ {η:Sg},exec (Mn (n+1)) lG [some (.str t),none,none,none,none,none] S=.exc bt η S→gK (Mn (n+1)) lF [.str t] S=.exc bt S:=fun {η} e=>by
  obtain ⟨x,rfl,r⟩:=aeZ (M:=Mn (n+1)) (d:=lF) (xs:=[.str t]) (·=bt) rfl hS (by
   show Ends (exec (Mn (n+1)) lG [some (.str t),none,none,none,none,none] (S++[])) _
   rw [List.append_nil,e]
   exact ⟨bt,_,[],by rw [List.append_nil],fun ns vs e=>(by cases e),rfl⟩)
  exact r
 have rs:∀ η,exec (Mn (n+1)) (.cons (.raise "BadText" .nil) .nil) η S=.exc bt η S:=fun η=>cA (by simp only [aP,evs,Res.out,gQ,List.length_nil,Nat.zero_le,if_true];rfl)
 by_cases c0:br=""
 ·rw [if_pos c0]
  exact bad (aq z0 (cA (cQ _ (Ra (aK (v_var rfl) aj (eqZ.trans (congrArg some (decide_eq_true c0))))) (rs _))))
 rw [if_neg c0]
 have o0:ev (Mn (n+1)) (.cmp .Eq (.var 2) (.cst (.str ""))) [some (.str t),some (.str wd),some (.str br),some (.str rest),none,none] S=.ok (.bl false) S:=aK (v_var rfl) aj (eqZ.trans (congrArg some (decide_eq_false c0)))
 by_cases c1:WD rest=")"
 ·rw [if_pos c1]
  have z1:aP (Mn (n+1)) (.ite (.bor (.cmp .Eq (.var 2) (.cst (.str ""))) (.cmp .NotEq (.Cu (.var 3) (.some (.neg (.cst (.int 1)))) .none) (.cst (.str ")")))) (.cons (.raise "BadText" .nil) .nil) .nil) [some (.str t),some (.str wd),some (.str br),some (.str rest),none,none] S=.nx [some (.str t),some (.str wd),some (.str br),some (.str rest),none,none] S:=
   bD _ (uE o0 (aK sl aj (neZ.trans (congrArg some (by rw [decide_eq_true c1];rfl))))) aM
  have z2:aP (Mn (n+1)) (.asg (.nm 4) (.Cu (.var 3) .none (.some (.neg (.cst (.int 1)))))) [some (.str t),some (.str wd),some (.str br),some (.str rest),none,none] S=.nx [some (.str t),some (.str wd),some (.str br),some (.str rest),some (.str (fD rest)),none] S:=
   bz _ _ (Br (v_var rfl) qC (qF (W9 aj)) (PL (by omega))) rfl
  have hi:(fD rest).length≤rest.length:=DK _ _ _
  by_cases c2:fD rest=""
  ·rw [if_pos c2]
   show gK (Mn (n+1)) lF [.str t] S=.ok (.val (.tup [.str wd,.tup []])) S
   refine cY (T:=[]) rfl ?_ hS (by simp only [Vl.nr,dH,Bool.and_self])
   show exec (Mn (n+1)) lG [some (.str t),none,none,none,none,none] S=_
   rw [List.append_nil]
   exact aq z0 (aq z1 (aq z2 (bF (dI _ _ (jg (aa (v_var rfl) (aa (qZ (aK (v_var rfl) aj (neZ.trans (congrArg some (by rw [decide_eq_true c2];rfl)))) (jg az (show 0≤1000000 by decide))) az)) (show 2≤1000000 by decide))))))
  ·rw [if_neg c2]
   have cnd:ev (Mn (n+1)) (.cmp .NotEq (.var 4) (.cst (.str ""))) [some (.str t),some (.str wd),some (.str br),some (.str rest),some (.str (fD rest)),none] S=.ok (.bl true) S:=aK (v_var rfl) aj (neZ.trans (congrArg some (by rw [decide_eq_false c2];rfl)))
   have hl:=PyProof.Rows.split_le (fD rest) ","
   have qY:pH (Mn (n+1)) (.sq (.inl (.split (.var 4) (.cst (.str ","))))) [some (.str t),some (.str wd),some (.str br),some (.str rest),some (.str (fD rest)),none] S=.ok ([],(Txt.split (fD rest) ",").map .str) S:=iG (du (ye (v_var rfl) aj (by decide) (by omega))) rfl
   have q:d9 (Mn (n+1)) fH [some (.str t),some (.str wd),some (.str br),some (.str rest),some (.str (fD rest)),none] S=match Zb (Txt.split (fD rest) ",") with | some vs=>.ok (.lst (vs.map .int)) S | none=>.exc bt S:=by
    have cx:=Ph n hS (some (.str t)) (some (.str wd)) (some (.str br)) (some (.str rest)) (some (.str (fD rest))) none (Txt.split (fD rest) ",") [] (fun w hw=>by have:=yW hw;omega) (by simp only [List.length_nil];omega)
    unfold fH
    simp only [d9]
    rw [qY]
    show (nZ (stM n [some (.str t),some (.str wd),some (.str br),some (.str rest),some (.str (fD rest)),none]) [] ((Txt.split (fD rest) ",").map .str) [] S).bind (fun ys S2=>(Res.ok (Ob.lst ys) S2:Res Ob))=_
    rw [List.map_nil] at cx
    rw [cx]
    cases Zb (Txt.split (fD rest) ",")<;>rfl
   cases er:Zb (Txt.split (fD rest) ",") with
   | none=>
    rw [er] at q
    simp only [Option.map_none]
    have qe:ev (Mn (n+1)) (.b1 .tuple (.inl fH)) [some (.str t),some (.str wd),some (.str br),some (.str rest),some (.str (fD rest)),none] S=.exc bt S:=by simp only [ev,q,Res.bind]
    have qi:ev (Mn (n+1)) (.ite (.cmp .NotEq (.var 4) (.cst (.str ""))) (.b1 .tuple (.inl fH)) (.tup .nil)) [some (.str t),some (.str wd),some (.str br),some (.str rest),some (.str (fD rest)),none] S=.exc bt S:=by
     simp only [ev] at cnd qe ⊢
     rw [cnd]
     simp only [Res.bind]
     simp only [Res.bind] at qe
     exact qe
    refine bad (η:=[some (.str t),some (.str wd),some (.str br),some (.str rest),some (.str (fD rest)),none]) (aq z0 (aq z1 (aq z2 (cA ?_))))
    have qv:evs (Mn (n+1)) (.cons (.var 1) (.cons (.ite (.cmp .NotEq (.var 4) (.cst (.str ""))) (.b1 .tuple (.inl fH)) (.tup .nil)) .nil)) [some (.str t),some (.str wd),some (.str br),some (.str rest),some (.str (fD rest)),none] S=.exc bt S:=by
     have h1:ev (Mn (n+1)) (.var 1) [some (.str t),some (.str wd),some (.str br),some (.str rest),some (.str (fD rest)),none] S=.ok (.str wd) S:=v_var rfl
     simp only [evs]
     rw [h1]
     simp only [Res.bind]
     rw [qi]
    have qt:ev (Mn (n+1)) (.tup (.cons (.var 1) (.cons (.ite (.cmp .NotEq (.var 4) (.cst (.str ""))) (.b1 .tuple (.inl fH)) (.tup .nil)) .nil))) [some (.str t),some (.str wd),some (.str br),some (.str rest),some (.str (fD rest)),none] S=.exc bt S:=by
     rw [show ∀ es η (S:Hs),ev (Mn (n+1)) (.tup es) η S=(evs (Mn (n+1)) es η S).bind _ from fun _ _ _=>by simp only [ev];rfl,qv];rfl
    rw [show ∀ e η (S:Hs),aP (Mn (n+1)) (.ret e) η S=(ev (Mn (n+1)) e η S).out η _ from fun _ _ _=>by simp only [aP];rfl,qt];rfl
   | some vs=>
    rw [er] at q
    simp only [Option.map_some]
    refine cY (T:=[]) rfl ?_ hS (by simp only [Vl.nr,dH,dU,Bool.and_self])
    show exec (Mn (n+1)) lG [some (.str t),none,none,none,none,none] S=_
    rw [List.append_nil]
    exact aq z0 (aq z1 (aq z2 (bF (dI _ _ (jg (aa (v_var rfl) (aa (lW cnd (dG (du q) rfl)) az)) (show 2≤1000000 by decide))))))
 ·rw [if_neg c1]
  exact bad (aq z0 (cA (cQ _ (uE o0 (aK sl aj (neZ.trans (congrArg some (by rw [decide_eq_false c1];rfl))))) (rs _))))
end K04
namespace K04
open PySem L2 Oz
def Xp (w:Str):Option ((Str × Int) ⊕ (Str × List Int)):=
 if (Txt.partition w "=").2.1="=" then (rm (Txt.partition w "=").2.2).map fun v=>.inl ((Txt.partition w "=").1,v)
 else if (Txt.partition w ":").2.1=":" then (ri (Txt.partition w ":").2.2).map .inr else none
def Je:List Str→dh→Its→Option (dh × Its)
 | [],N,I=>some (N,I)
 | w::ws,N,I=>match Xp w with
  | some (.inl p)=>Je ws (N++[p]) I
  | some (.inr q)=>Je ws N (I++[q])
  | none=>none
abbrev sw (t:Str) (S:Hs) (a3 a4 a5 a6 a7 a8 a9 a10:Option Vl):Sg:=[some (.str t),some (.ref S.length),some (.ref (S.length+1)),a3,a4,a5,a6,a7,a8,a9,a10]
abbrev H2 (S:Hs) (N:dh) (I:Its):Hs:=S++[.lst (valN N),.lst (aY I)]
theorem aeQ {S:Hs} (hS:NR S) (N:dh) (I:Its):NR (H2 S N I):=nr2 hS (by simp only [Ob.nr,LR]) (by simp only [Ob.nr,rP])
theorem afa (S:Hs) (N:dh) (I:Its):qp (H2 S N I) (.ref S.length)=some S.length:=by simp only [qp,g0]
theorem ae5 (S:Hs) (N:dh) (I:Its):qp (H2 S N I) (.ref (S.length+1))=some (S.length+1):=by simp only [qp,g1]
theorem XD (N:dh) (p:Str × Int):valN (N++[p])=valN N++[.tup [.str p.1,.int p.2]]:=by simp [valN]
theorem UJ (I:Its) (p:Str × List Int):aY (I++[p])=aY I++[.tup [.str p.1,.tup (p.2.map .int)]]:=by simp [aY]
theorem Ey {M:aF} {c:C} {η η1:Sg} {S S1:Hs} (h:aP M c η S=.nx η1 S1):exec M (.cons c .nil) η S=.nx η1 S1:=aq h aM
theorem abL (n:Nat) (η:Sg) (S:Hs):exec (Mn n) (.cons (.raise "BadText" .nil) .nil) η S=.exc bt η S:=cA (by simp only [aP,evs,Res.out,gQ,List.length_nil,Nat.zero_le,if_true];rfl)
theorem aes (n:Nat) {t w:Str} (hw:w.length≤1000) {N:dh} {I:Its} (hN:N.length≤5000) (hI:I.length≤5000) {S:Hs} (hS:NR S) (a4 a5 a6 a7 a8 a9:Option Vl):∃ b4 b5 b6 b7 b8 b9,
  exec (Mn (n+2)) cD (sw t S (some (.str w)) a4 a5 a6 a7 a8 a9 none) (H2 S N I)=match Xp w with
   | some (.inl p)=>.nx (sw t S (some (.str w)) b4 b5 b6 b7 b8 b9 none) (H2 S (N++[p]) I)
   | some (.inr q)=>.nx (sw t S (some (.str w)) b4 b5 b6 b7 b8 b9 none) (H2 S N (I++[q]))
   | none=>.exc bt (sw t S (some (.str w)) b4 b5 b6 b7 b8 b9 none) (H2 S N I):=by
 have hH:=aeQ hS N I
 have p1:=vq w "=" (by decide)
 have p2:=vq w ":" (by decide)
 unfold Xp
 generalize hP:Txt.partition w "="=P at p1 ⊢
 obtain ⟨nm,sg,rst⟩:=P
 generalize hQ:Txt.partition w ":"=Q at p2 ⊢
 obtain ⟨nu,co,QR⟩:=Q
 simp only at p1 p2 ⊢
 have z0:aP (Mn (n+2)) (.asg (.tp (.cons (.nm 4) (.cons (.nm 5) (.cons (.nm 6) .nil)))) (.tm .part (.var 3) (.cst (.str "=")))) (sw t S (some (.str w)) a4 a5 a6 a7 a8 a9 none) (H2 S N I)=.nx (sw t S (some (.str w)) (some (.str nm)) (some (.str sg)) (some (.str rst)) a7 a8 a9 none) (H2 S N I):=by
  refine bz _ _ (T7 (v_var rfl) aj (by decide) (by omega)) ?_
  rw [hP];rfl
 by_cases c:sg="="
 ·rw [if_pos c]
  have tst:ev (Mn (n+2)) (.cmp .Eq (.var 5) (.cst (.str "="))) (sw t S (some (.str w)) (some (.str nm)) (some (.str sg)) (some (.str rst)) a7 a8 a9 none) (H2 S N I)=.ok (.bl true) (H2 S N I):=aK (v_var rfl) aj (eqZ.trans (congrArg some (decide_eq_true c)))
  have hc:=V1 (n+1) (w:=rst) (by omega) hH
  cases er:rm rst with
  | none=>
   rw [er] at hc
   refine ⟨some (.str nm),some (.str sg),some (.str rst),a7,a8,a9,?_⟩
   show exec (Mn (n+2)) cD (sw t S (some (.str w)) a4 a5 a6 a7 a8 a9 none) (H2 S N I)=.exc bt _ _
   refine aq z0 (cA (cQ _ tst (cA (aaM ?_))))
   have hx:=xV (M:=Mn (n+2)) (es:=.cons (.var 6) .nil) (η:=sw t S (some (.str w)) (some (.str nm)) (some (.str sg)) (some (.str rst)) a7 a8 a9 none) (aa (v_var rfl) az) hc
   have h1:ev (Mn (n+2)) (.var 1) (sw t S (some (.str w)) (some (.str nm)) (some (.str sg)) (some (.str rst)) a7 a8 a9 none) (H2 S N I)=.ok (.ref S.length) (H2 S N I):=v_var rfl
   have h4:ev (Mn (n+2)) (.var 4) (sw t S (some (.str w)) (some (.str nm)) (some (.str sg)) (some (.str rst)) a7 a8 a9 none) (H2 S N I)=.ok (.str nm) (H2 S N I):=v_var rfl
   have qv:evs (Mn (n+2)) (.cons (.var 4) (.cons (.call "read_mark" (.cons (.var 6) .nil)) .nil)) (sw t S (some (.str w)) (some (.str nm)) (some (.str sg)) (some (.str rst)) a7 a8 a9 none) (H2 S N I)=.exc bt (H2 S N I):=by
    simp only [evs];rw [h4];simp only [Res.bind];rw [hx]
   have qt:ev (Mn (n+2)) (.tup (.cons (.var 4) (.cons (.call "read_mark" (.cons (.var 6) .nil)) .nil))) (sw t S (some (.str w)) (some (.str nm)) (some (.str sg)) (some (.str rst)) a7 a8 a9 none) (H2 S N I)=.exc bt (H2 S N I):=by
    rw [show ∀ es η (S:Hs),ev (Mn (n+2)) (.tup es) η S=(evs (Mn (n+2)) es η S).bind _ from fun _ _ _=>by simp only [ev];rfl,qv];rfl
   have qs:evs (Mn (n+2)) (.cons (.tup (.cons (.var 4) (.cons (.call "read_mark" (.cons (.var 6) .nil)) .nil))) .nil) (sw t S (some (.str w)) (some (.str nm)) (some (.str sg)) (some (.str rst)) a7 a8 a9 none) (H2 S N I)=.exc bt (H2 S N I):=by
    rw [show ∀ e η (S:Hs),evs (Mn (n+2)) (.cons e .nil) η S=(ev (Mn (n+2)) e η S).bind _ from fun _ _ _=>by simp only [evs];rfl,qt];rfl
   rw [show ∀ m a es η (S:Hs),ev (Mn (n+2)) (.mut m a es) η S=(ev (Mn (n+2)) a η S).bind _ from fun _ _ _ _ _=>by simp only [ev];rfl,h1]
   simp only [Res.bind]
   rw [afa]
   simp only
   rw [qs]
  | some v=>
   rw [er] at hc
   refine ⟨some (.str nm),some (.str sg),some (.str rst),a7,a8,a9,?_⟩
   show exec (Mn (n+2)) cD (sw t S (some (.str w)) a4 a5 a6 a7 a8 a9 none) (H2 S N I)=.nx (sw t S (some (.str w)) (some (.str nm)) (some (.str sg)) (some (.str rst)) a7 a8 a9 none) (H2 S (N++[(nm,v)]) I)
   refine aq z0 (Ey (cQ _ tst (Ey ?_)))
   refine (NT _ _ (BR (k:=S.length) (ys:=valN N) (v_var rfl) (afa _ _ _) (aa (jg (aa (v_var rfl) (aa (bJ (aa (v_var rfl) az) hc) az)) (show 2≤1000000 by decide)) az) g0 (lw (by rw [jT];omega)))).trans ?_
   rw [s0,H2,XD]
   rfl
 ·rw [if_neg c]
  have tst:ev (Mn (n+2)) (.cmp .Eq (.var 5) (.cst (.str "="))) (sw t S (some (.str w)) (some (.str nm)) (some (.str sg)) (some (.str rst)) a7 a8 a9 none) (H2 S N I)=.ok (.bl false) (H2 S N I):=aK (v_var rfl) aj (eqZ.trans (congrArg some (decide_eq_false c)))
  have z1:aP (Mn (n+2)) (.asg (.tp (.cons (.nm 7) (.cons (.nm 8) (.cons (.nm 9) .nil)))) (.tm .part (.var 3) (.cst (.str ":")))) (sw t S (some (.str w)) (some (.str nm)) (some (.str sg)) (some (.str rst)) a7 a8 a9 none) (H2 S N I)=.nx (sw t S (some (.str w)) (some (.str nm)) (some (.str sg)) (some (.str rst)) (some (.str nu)) (some (.str co)) (some (.str QR)) none) (H2 S N I):=by
   refine bz _ _ (T7 (v_var rfl) aj (by decide) (by omega)) ?_
   rw [hQ];rfl
  by_cases d:co=":"
  ·rw [if_pos d]
   have z2:aP (Mn (n+2)) (.ite (.cmp .NotEq (.var 8) (.cst (.str ":"))) (.cons (.raise "BadText" .nil) .nil) .nil) (sw t S (some (.str w)) (some (.str nm)) (some (.str sg)) (some (.str rst)) (some (.str nu)) (some (.str co)) (some (.str QR)) none) (H2 S N I)=.nx (sw t S (some (.str w)) (some (.str nm)) (some (.str sg)) (some (.str rst)) (some (.str nu)) (some (.str co)) (some (.str QR)) none) (H2 S N I):=
    bD _ (aK (v_var rfl) aj (neZ.trans (congrArg some (by rw [decide_eq_true d];rfl)))) aM
   have hc:=acW n (t:=QR) (by omega) hH
   cases er:ri QR with
   | none=>
    rw [er] at hc
    refine ⟨some (.str nm),some (.str sg),some (.str rst),some (.str nu),some (.str co),some (.str QR),?_⟩
    show exec (Mn (n+2)) cD (sw t S (some (.str w)) a4 a5 a6 a7 a8 a9 none) (H2 S N I)=.exc bt _ _
    refine aq z0 (cA (bD _ tst (aq z1 (aq z2 (cA (aaM ?_))))))
    have hx:=xV (M:=Mn (n+2)) (es:=.cons (.var 9) .nil) (η:=sw t S (some (.str w)) (some (.str nm)) (some (.str sg)) (some (.str rst)) (some (.str nu)) (some (.str co)) (some (.str QR)) none) (aa (v_var rfl) az) hc
    have h1:ev (Mn (n+2)) (.var 2) (sw t S (some (.str w)) (some (.str nm)) (some (.str sg)) (some (.str rst)) (some (.str nu)) (some (.str co)) (some (.str QR)) none) (H2 S N I)=.ok (.ref (S.length+1)) (H2 S N I):=v_var rfl
    have qs:evs (Mn (n+2)) (.cons (.call "read_item" (.cons (.var 9) .nil)) .nil) (sw t S (some (.str w)) (some (.str nm)) (some (.str sg)) (some (.str rst)) (some (.str nu)) (some (.str co)) (some (.str QR)) none) (H2 S N I)=.exc bt (H2 S N I):=by
     rw [show ∀ e η (S:Hs),evs (Mn (n+2)) (.cons e .nil) η S=(ev (Mn (n+2)) e η S).bind _ from fun _ _ _=>by simp only [evs];rfl,hx];rfl
    rw [show ∀ m a es η (S:Hs),ev (Mn (n+2)) (.mut m a es) η S=(ev (Mn (n+2)) a η S).bind _ from fun _ _ _ _ _=>by simp only [ev];rfl,h1]
    simp only [Res.bind]
    rw [ae5]
    simp only
    rw [qs]
   | some q=>
    rw [er] at hc
    refine ⟨some (.str nm),some (.str sg),some (.str rst),some (.str nu),some (.str co),some (.str QR),?_⟩
    show exec (Mn (n+2)) cD (sw t S (some (.str w)) a4 a5 a6 a7 a8 a9 none) (H2 S N I)=.nx (sw t S (some (.str w)) (some (.str nm)) (some (.str sg)) (some (.str rst)) (some (.str nu)) (some (.str co)) (some (.str QR)) none) (H2 S N (I++[q]))
    refine aq z0 (Ey (bD _ tst (aq z1 (aq z2 (Ey ?_)))))
    refine (NT _ _ (BR (k:=S.length+1) (ys:=aY I) (v_var rfl) (ae5 _ _ _) (aa (bJ (aa (v_var rfl) az) hc) az) g1 (lw (by rw [fQ];omega)))).trans ?_
    rw [s1,H2,UJ]
    rfl
  ·rw [if_neg d]
   refine ⟨some (.str nm),some (.str sg),some (.str rst),some (.str nu),some (.str co),some (.str QR),?_⟩
   show exec (Mn (n+2)) cD (sw t S (some (.str w)) a4 a5 a6 a7 a8 a9 none) (H2 S N I)=.exc bt _ _
   refine (aq z0 (cA (bD _ tst (aq z1 (cA (cQ _ (aK (v_var rfl) aj (neZ.trans (congrArg some (by rw [decide_eq_false d];rfl)))) (abL _ _ _)))))))
theorem Nr (n:Nat) {t:Str} {S:Hs} (hS:NR S):∀ (ws:List Str) (N:dh) (I:Its),(∀ w∈ws,w.length≤1000)→N.length+ws.length≤5000→I.length+ws.length≤5000→∀ a3 a4 a5 a6 a7 a8 a9:Option Vl,∃ b3 b4 b5 b6 b7 b8 b9,
  match Je ws N I with
   | some p=>forL (fun η1 S2=>exec (Mn (n+2)) cD η1 S2) (.nm 3) [] (ws.map .str) (sw t S a3 a4 a5 a6 a7 a8 a9 none) (H2 S N I)=.nx (sw t S b3 b4 b5 b6 b7 b8 b9 none) (H2 S p.1 p.2)
   | none=>∃ N' I',forL (fun η1 S2=>exec (Mn (n+2)) cD η1 S2) (.nm 3) [] (ws.map .str) (sw t S a3 a4 a5 a6 a7 a8 a9 none) (H2 S N I)=.exc bt (sw t S b3 b4 b5 b6 b7 b8 b9 none) (H2 S N' I')
 | [],N,I,_,_,_,a3,a4,a5,a6,a7,a8,a9=>⟨a3,a4,a5,a6,a7,a8,a9,by
  simp only [Je,List.map_nil,forL]
  rw [if_pos (aU _)]⟩
 | w::ws,N,I,hw,hN,hI,a3,a4,a5,a6,a7,a8,a9=>by
  simp only [List.length_cons] at hN hI
  obtain ⟨c4,c5,c6,c7,c8,c9,st⟩:=aes n (t:=t) (hw w List.mem_cons_self) (N:=N) (I:=I) (by omega) (by omega) hS a4 a5 a6 a7 a8 a9
  have un:forL (fun η1 S2=>exec (Mn (n+2)) cD η1 S2) (.nm 3) [] ((w::ws).map .str) (sw t S a3 a4 a5 a6 a7 a8 a9 none) (H2 S N I)=match exec (Mn (n+2)) cD (sw t S (some (.str w)) a4 a5 a6 a7 a8 a9 none) (H2 S N I) with
    | .nx η2 S2=>forL (fun η1 S2=>exec (Mn (n+2)) cD η1 S2) (.nm 3) [] (ws.map .str) η2 S2
    | .cnt η2 S2=>forL (fun η1 S2=>exec (Mn (n+2)) cD η1 S2) (.nm 3) [] (ws.map .str) η2 S2
    | .brk η2 S2=>.nx η2 S2
    | o=>o:=by
   rw [List.map_cons]
   rw [forL]
   rw [if_pos (aU _)]
   show (match exec (Mn (n+2)) cD (sw t S (some (.str w)) a4 a5 a6 a7 a8 a9 none) (H2 S N I) with | .nx η2 S2=>_ | .cnt η2 S2=>_ | .brk η2 S2=>_ | o=>o)=_
   rfl
  rw [un]
  simp only [Je]
  cases e:Xp w with
  | none=>
   rw [e] at st
   rw [st]
   exact ⟨_,_,_,_,_,_,_,N,I,rfl⟩
  | some r=>
   cases r with
   | inl p=>
    rw [e] at st
    rw [st]
    exact Nr n hS ws (N++[p]) I (fun z hz=>hw z (List.mem_cons_of_mem _ hz)) (by simp;omega) (by omega) _ _ _ _ _ _ _
   | inr q=>
    rw [e] at st
    rw [st]
    exact Nr n hS ws N (I++[q]) (fun z hz=>hw z (List.mem_cons_of_mem _ hz)) (by omega) (by simp;omega) _ _ _ _ _ _ _
end K04
namespace K04
open PySem L2 Oz
theorem Oq {z:Str} {lo hi:Int} (h:isW z lo hi=true):lo≤z.length∧(z.length:Int)≤hi∧∀ c∈z.cps.toList,c∈abc.cps.toList:=by
 unfold isW agc at h
 rw [Bool.and_eq_true,Bool.and_eq_true,decide_eq_true_eq,decide_eq_true_eq,List.all_eq_true] at h
 exact ⟨h.1.1,h.1.2,fun c hc=>of_decide_eq_true (h.2 c hc)⟩
theorem ag5:∀ c∈abc.cps.toList,c<0x110000:=by decide
theorem acL {many:Nat} {q:Str × List Int} (h:dZ many q=true):Item many q:=by
 have hs:=Ih h
 refine ⟨?_,hs.1,hs.2,?_⟩
 ·unfold dZ nD at h
  rw [Bool.and_eq_true] at h
  have h1:=h.1
  split at h1
  ·rename_i e;rw [e];exact ⟨by decide,by decide⟩
  ·rw [Bool.and_eq_true] at h1
   obtain ⟨_,h2,h3⟩:=Oq h1.1
   exact ⟨by omega,fun c hc=>ag5 c (h3 c hc)⟩
 ·unfold dZ at h
  rw [Bool.and_eq_true] at h
  exact h.1
theorem aam {N:dh} {I:Its} (hv:Vd N I none):Raw N I∧I.length≤200∧(ord N I).length=I.length:=by
 cases hv with
 | ok hN hI hT hf h2 Q6=>
  refine ⟨⟨hf,fun p hp=> ?_,fun q hq=>acL (hI q hq)⟩,h2,Q6⟩
  obtain ⟨i,hi⟩:=List.getElem?_of_mem hp
  have hl:=(List.getElem?_eq_some_iff.mp hi).1
  obtain ⟨h1,h2,h3⟩:=Oq (HW hi (hN i hl)).1
  exact ⟨by omega,by omega,h3⟩
theorem af0 {N:dh} {I:Its} (h:Raw N I) (XJ:I.length≤200) (hf:(ord N I).length=I.length):Vd N I none:=by
 refine .ok (fun i hi=> ?_) (fun q hq=> ?_) ?_ h.fit XJ hf
 ·have e:=List.getElem?_eq_getElem hi
  unfold iJ
  rw [e]
  simp only
  rw [aa3 (h.hw _ (List.getElem_mem hi)),Bool.true_and,decide_eq_true_eq]
  exact uL h.fit.nd (by rw [List.getElem?_map,e];rfl)
 ·unfold dZ
  rw [(h.hi q hq).k,Bool.true_and]
  exact List.all_eq_true.mpr fun t ht=>vm.mpr ((h.hi q hq).t t ht)
 ·exact List.all_eq_true.mpr fun p hp=>vm.mpr (h.fit.ht p hp)
theorem yN {ld:dh} {it:Its} {S:Hs} {m:Str} (hm:((["leads","spots"]:List Str).contains m)=false):Oz.lH S (vN ld it) "Web" m=true:=by
 unfold Oz.lH
 rw [jk]
 simp only [hm,decide_true];rfl
theorem Xa (n:Nat) {ld:dh} {it:Its} {S:Hs} (h:Raw ld it) (hS:NR S):(Mn (n+3)).cal (dot "Web" "__repr__") [vN ld it] S=.ok (.val (.str (txt ld it))) S:=by
 rw [yP]
 refine cY (T:=[]) rfl ?_ hS (by simp only [Vl.nr])
 show exec (Mn (n+2)) yj [some (vN ld it)] S=_
 rw [List.append_nil]
 exact bF (dI _ _ (dG (bJ (r:=.val (.str (txt ld it))) (aa (Hw (v_var rfl) (jk S _ _) vD) (aa (Hw (v_var rfl) (jk S _ _) vp) az)) (T9 n h hS)) rfl))
section
variable {M:aF} {bd hd:Cs} {l:List Str} {η η1:Sg} {S S1:Hs} {er:Xc} {o:Out}
theorem acJ (h:exec M bd η S=.nx η1 S1):aP M (.Tv bd l hd) η S=.nx η1 S1:=by simp only [aP,h]
theorem adc (h:exec M bd η S=.exc er η1 S1) (hs:Fl M.sub er.c l=some true) (hh:exec M hd η1 S1=o):aP M (.Tv bd l hd) η S=o:=by simp only [aP,h,hs,hh]
end
theorem acy (n:Nat) {c:Str} (h:c="BadName"∨c="BadWeb"):Fl (Mn n).sub c ["BadName","BadWeb"]=some true:=by
 rcases h with rfl | rfl
 ·unfold Fl Fl Fl
  rw [sbT (d:="BadName") (c:="BadName") (w:=true) (by decide+kernel),sbT (d:="BadName") (c:="BadWeb") (w:=false) (by decide+kernel)]
  rfl
 ·unfold Fl Fl Fl
  rw [sbT (d:="BadWeb") (c:="BadName") (w:=false) (by decide+kernel),sbT (d:="BadWeb") (c:="BadWeb") (w:=true) (by decide+kernel)]
  rfl
def wordsOf (t:Str):List Str:=if t="empty" then [] else Txt.split t " "
theorem words_le {t w:Str} (h:w∈wordsOf t):w.length≤t.length:=by
 unfold wordsOf at h
 split at h
 ·cases h
 ·exact yW h
theorem XH (t:Str):(wordsOf t).length≤t.length+2:=by
 unfold wordsOf
 split
 ·exact Nat.zero_le _
 ·have:=PyProof.Rows.split_le t " "
  omega
theorem Z8 {w:Str}:(∀ {p:Str × Int},Xp w=some (.inl p)→p.1.length≤w.length)∧∀ {q:Str × List Int},Xp w=some (.inr q)→q.1.length≤w.length∧q.2.length≤w.length+2:=by
 have p1:=vq w "=" (by decide)
 have p2:=vq w ":" (by decide)
 unfold Xp
 constructor
 ·intro p h
  split at h
  ·obtain ⟨v,_,e⟩:=Option.map_eq_some_iff.mp h
   cases e
   exact p1.1
  ·split at h
   ·obtain ⟨v,_,e⟩:=Option.map_eq_some_iff.mp h
    cases e
   ·cases h
 ·intro q h
  split at h
  ·obtain ⟨v,_,e⟩:=Option.map_eq_some_iff.mp h
   cases e
  ·split at h
   ·obtain ⟨v,hv,e⟩:=Option.map_eq_some_iff.mp h
    cases e
    have:=ai0 hv
    omega
   ·cases h
theorem UV {b:Nat}:∀ {ws:List Str} {N:dh} {I:Its} {p:dh × Its},(∀ w∈ws,w.length≤b)→(∀ p∈N,p.1.length≤b)→(∀ q∈I,q.1.length≤b∧q.2.length≤b+2)→Je ws N I=some p→
  (∀ q∈p.1,q.1.length≤b)∧(∀ q∈p.2,q.1.length≤b∧q.2.length≤b+2)∧p.1.length≤N.length+ws.length∧p.2.length≤I.length+ws.length
 | [],N,I,p,_,hN,hI,h=>by
  simp only [Je,Option.some.injEq] at h
  subst h
  exact ⟨hN,hI,Nat.le_refl _,Nat.le_refl _⟩
 | w::ws,N,I,p,hw,hN,hI,h=>by
  simp only [Je] at h
  have hw0:=hw w List.mem_cons_self
  split at h
  ·rename_i q e
   have:=Z8.1 e
   obtain ⟨h1,h2,h3,h4⟩:=UV (fun z hz=>hw z (List.mem_cons_of_mem _ hz)) (fun z hz=>by
    rcases List.mem_append.mp hz with hz | hz
    ·exact hN z hz
    ·rw [List.mem_singleton.mp hz];omega) hI h
   rw [List.length_append,List.length_singleton] at h3
   simp only [List.length_cons]
   exact ⟨h1,h2,by omega,by omega⟩
  ·rename_i q e
   have:=Z8.2 e
   obtain ⟨h1,h2,h3,h4⟩:=UV (fun z hz=>hw z (List.mem_cons_of_mem _ hz)) hN (fun z hz=>by
    rcases List.mem_append.mp hz with hz | hz
    ·exact hI z hz
    ·rw [List.mem_singleton.mp hz];omega) h
   rw [List.length_append,List.length_singleton] at h4
   simp only [List.length_cons]
   exact ⟨h1,h2,by omega,by omega⟩
  ·cases h
theorem Z4 (n:Nat) {t:Str} (ht:t.length≤990) {S:Hs} (hS:NR S) :
  (∃ N I,Je (wordsOf t) [] []=some (N,I)∧Vd N I none∧txt (eO N I) (iT N I)=t∧(Mn (n+4)).cal "read_web" [.str t] S=.ok (.val (vN (eO N I) (iT N I))) S)
  ∨((Mn (n+4)).cal "read_web" [.str t] S=.exc bt S∧∀ N I,Je (wordsOf t) [] []=some (N,I)→Vd N I none→txt (eO N I) (iT N I)≠t):=by
 rw [Ge]
 have hwl:=XH t
 have bad:∀ {η:Sg} {T:Hs},exec (Mn (n+3)) DP [some (.str t),none,none,none,none,none,none,none,none,none,none] S=.exc bt η (S++T)→gK (Mn (n+3)) wL [.str t] S=.exc bt S:=fun {η T} e=>Mr rfl e hS fun ns vs e=>by cases e
 have z0:aP (Mn (n+3)) (.par 1 2 (.Cz (.lst .nil)) (.Cz (.lst .nil))) [some (.str t),none,none,none,none,none,none,none,none,none,none] S=.nx (sw t S none none none none none none none none) (H2 S [] []):=by
  refine (aiH (nY (lK az (show 0≤1000000 by decide))) (nY (lK az (show 0≤1000000 by decide)))).trans ?_
  simp only [List.length_append,List.length_singleton,List.append_assoc]
  rfl
 have qY:pH (Mn (n+3)) (.sq (.ite (.cmp .Eq (.var 0) (.cst (.str "empty"))) (.inl (.lst .nil)) (.inl (.split (.var 0) (.cst (.str " ")))))) (sw t S none none none none none none none none) (H2 S [] [])=.ok ([],(wordsOf t).map .str) (H2 S [] []):=by
  unfold wordsOf
  by_cases c:t="empty"
  ·rw [if_pos c]
   exact iG (lW (aK (v_var rfl) aj (eqZ.trans (congrArg some (decide_eq_true c)))) (du (lK az (show 0≤1000000 by decide)))) rfl
  ·rw [if_neg c]
   exact iG (qZ (aK (v_var rfl) aj (eqZ.trans (congrArg some (decide_eq_false c)))) (du (ye (v_var rfl) aj (by decide) (by omega)))) rfl
 obtain ⟨b3,b4,b5,b6,b7,b8,b9,lp⟩:=Nr (n+1) (t:=t) hS (wordsOf t) [] [] (fun w hw=>by have:=words_le hw;omega) (by simp only [List.length_nil];omega) (by simp only [List.length_nil];omega) none none none none none none none
 cases e:Je (wordsOf t) [] [] with
 | none=>
  rw [e] at lp
  obtain ⟨N',I',lp⟩:=lp
  refine .inr ⟨bad (T:=[.lst (valN N'),.lst (aY I')]) (aq z0 (cA (jJ _ _ _ qY lp))),fun N I h=>by cases h⟩
 | some p=>
  obtain ⟨N,I⟩:=p
  rw [e] at lp
  simp only at lp
  have zl:=jJ [] _ _ qY lp
  obtain ⟨l1,l2,l3,l4⟩:=UV (b:=990) (fun w hw=>by have:=words_le hw;omega) (fun z hz=>by cases hz) (fun z hz=>by cases hz) e
  simp only [List.length_nil] at l1 l2 l3 l4
  have z:Sz N I:=⟨fun p hp=>by have:=l1 p hp;omega,by omega,fun p hp=>by have:=l2 p hp;omega,fun p hp=>by have:=l2 p hp;omega,by omega⟩
  have hH:=aeQ hS N I
  have qn:Sq (H2 S N I) (.ref S.length) (valN N):=aa2 g0
  have qi:Sq (H2 S N I) (.ref (S.length+1)) (aY I):=aa2 g1
  have args:evs (Mn (n+3)) (.cons (.var 1) (.cons (.var 2) .nil)) (sw t S b3 b4 b5 b6 b7 b8 b9 none) (H2 S N I)=.ok [.ref S.length,.ref (S.length+1)] (H2 S N I):=aa (v_var rfl) (aa (v_var rfl) az)
  by_cases hv:Vd N I none
  ·obtain ⟨hr,XJ,Q6⟩:=aam hv
   have ak5:=Ud hr
   have hn:=afm n hr XJ Q6 qn qi hH args
   have zt:aP (Mn (n+3)) (.Tv tH ["BadName","BadWeb"] (.cons (.raise "BadText" .nil) .nil)) (sw t S b3 b4 b5 b6 b7 b8 b9 none) (H2 S N I)=.nx (sw t S b3 b4 b5 b6 b7 b8 b9 (some (vN (eO N I) (iT N I)))) (H2 S N I):=
    acJ (Ey (bz _ _ (du hn) rfl))
   have hre:ev (Mn (n+3)) (.Ko "Web" (.var 10)) (sw t S b3 b4 b5 b6 b7 b8 b9 (some (vN (eO N I) (iT N I)))) (H2 S N I)=.ok (.str (txt (eO N I) (iT N I))) (H2 S N I):=V7 (v_var rfl) (yN (by decide)) (Xa n ak5.raw hH)
   by_cases c:txt (eO N I) (iT N I)=t
   ·refine .inl ⟨N,I,rfl,hv,c,?_⟩
    refine cY (T:=[.lst (valN N),.lst (aY I)]) rfl ?_ hS (Ms _ _)
    exact aq z0 (aq zl (aq zt (aq (bD _ (aK hre (v_var rfl) (neZ.trans (congrArg some (by rw [decide_eq_true c];rfl)))) aM) (bF (dI _ _ (v_var rfl))))))
   ·refine .inr ⟨bad (T:=[.lst (valN N),.lst (aY I)]) (aq z0 (aq zl (aq zt (cA (cQ _ (aK hre (v_var rfl) (neZ.trans (congrArg some (by rw [decide_eq_false c];rfl)))) (abL _ _ _)))))),fun N' I' h _=>by cases h;exact c⟩
  ·obtain ⟨v,hvd⟩:=aix z
   cases v with
   | none=>exact absurd hvd hv
   | some cx=>
    obtain ⟨c,x⟩:=cx
    have hc:c="BadName"∨c="BadWeb":=by cases hvd<;>first | exact .inl rfl | exact .inr rfl
    have hx:x.nr=true:=by cases hvd<;>simp only [Vl.nr]
    have hi:=aee n z hvd qn qi hH
    have hn:d9 (Mn (n+3)) (.new "Web" (.cons (.var 1) (.cons (.var 2) .nil))) (sw t S b3 b4 b5 b6 b7 b8 b9 none) (H2 S N I)=.exc ⟨c,some ([abA c],[x])⟩ (H2 S N I):=afU args hH hi fun ns vs e=>by cases e;simp [dH,hx]
    have zt:aP (Mn (n+3)) (.Tv tH ["BadName","BadWeb"] (.cons (.raise "BadText" .nil) .nil)) (sw t S b3 b4 b5 b6 b7 b8 b9 none) (H2 S N I)=.exc bt (sw t S b3 b4 b5 b6 b7 b8 b9 none) (H2 S N I):=
     adc (cA (by simp only [aP];rw [agu hn];rfl)) (acy _ hc) (abL _ _ _)
    exact .inr ⟨bad (T:=[.lst (valN N),.lst (aY I)]) (aq z0 (aq zl (cA zt))),fun N' I' h k=>by cases h;exact absurd k hv⟩
end K04
namespace K04
open PySem L2 Oz
def sY (s:Nat) (z:Str):Prop:=s∉TL.tl z
theorem sY.app {s:Nat} {x y:Str} (h:sY s x) (k:sY s y):sY s (x++y):=by
 unfold sY at *
 rw [TL.tl_append,List.mem_append]
 rintro (c | c)
 ·exact h c
 ·exact k c
theorem ahh:∀ k∈List.range 15,rm (mk ((k:Int) - 1))=some ((k:Int) - 1)∧(1≤(mk ((k:Int) - 1)).length∧(mk ((k:Int) - 1)).length≤2)∧∀ s∈[32,61,58,40,44],s∉TL.tl (mk ((k:Int) - 1)):=by decide+kernel
theorem Cg {t:Int} (h: -1≤t∧t≤13):rm (mk t)=some t∧(1≤(mk t).length∧(mk t).length≤2)∧∀ s∈[32,61,58,40,44],sY s (mk t):=by
 have:=ahh (t+1).toNat (List.mem_range.mpr (by omega))
 rw [show (((t+1).toNat:Nat):Int) - 1=t by omega] at this
 exact this
theorem acQ:∀ k∈List.range 15,(((toString ((k:Nat):Int):String):Str)).length≤2∧∀ s∈[32,61,58],s∉TL.tl ((toString ((k:Nat):Int):String):Str):=by decide+kernel
theorem MT {t:Int} (h:0≤t∧t≤14):(((toString t:String):Str)).length≤2∧∀ s∈[32,61,58],sY s ((toString t:String):Str):=by
 have:=acQ t.toNat (List.mem_range.mpr (by omega))
 rw [show ((t.toNat:Nat):Int)=t by omega] at this
 exact this
theorem acl:∀ s∈[32,61,58,40,44],s∉abc.cps.toList:=by decide
theorem zg {z:Str} (h:∀ c∈z.cps.toList,c∈abc.cps.toList) {s:Nat} (hs:s∈[32,61,58,40,44]):sY s z:=fun c=>acl s hs (h s c)
theorem M4 {many:Nat} {q:Str × List Int} (h:Item many q):∀ c∈q.1.cps.toList,c∈abc.cps.toList:=by
 have h1:=h.k
 unfold nD at h1
 split at h1
 ·rename_i e;rw [e];decide
 ·rw [Bool.and_eq_true] at h1
  exact (Oq h1.1).2.2
theorem JC {y:List Nat} {c:Nat}:∀ {ps:List (List Nat)},c∈TL.joinL y ps→c∈y∨∃ p∈ps,c∈p
 | [],h=>by simp [TL.joinL] at h
 | [p],h=>.inr ⟨p,List.mem_cons_self,h⟩
 | p::q::r,h=>by
  simp only [TL.joinL,List.mem_append] at h
  rcases h with h | h | h
  ·exact .inr ⟨p,List.mem_cons_self,h⟩
  ·exact .inl h
  ·rcases JC h with h | ⟨u,hu,h⟩
   ·exact .inl h
   ·exact .inr ⟨u,List.mem_cons_of_mem _ hu,h⟩
theorem Xw {s:Nat} {y:Str} {ps:List Str} (hy:sY s y) (h:∀ p∈ps,sY s p):sY s (Txt.join y ps):=by
 unfold sY at *
 rw [TL.join_eq,TL.tl_join]
 intro c
 rcases JC c with c | ⟨p,hp,c⟩
 ·exact hy c
 ·obtain ⟨z,hz,rfl⟩:=List.mem_map.mp hp
  exact h z hz c
section
variable {ld:dh} {it:Its}
theorem t13 (h:Raw ld it) (i9:it.length≤13) {p:Str × Int} (hp:p∈ld): -1≤p.2∧p.2≤13:=by
 have:=h.fit.ht p hp
 omega
theorem i13 (h:Raw ld it) (i9:it.length≤13) {p:Str × List Int} (hp:p∈it):∀ t∈p.2,-1≤t∧t≤13:=fun t ht=>by
 have:=(h.hi p hp).t t ht
 omega
theorem ac5 {p:Str × Int} (h:yH p.1) (k: -1≤p.2∧p.2≤13):sY 32 (wN p):=((zg h.al (by simp)).app (show sY 32 ("=":Str) by unfold sY;decide)).app ((Cg k).2.2 32 (by simp))
theorem Rh {p:Str × List Int} (k:∀ t∈p.2,-1≤t∧t≤13) {s:Nat} (hs:s∈[32,61,58,40]) (hc:sY s (",":Str)):sY s (inn p):=Xw hc fun z hz=>by
 obtain ⟨t,ht,rfl⟩:=List.mem_map.mp hz
 exact (Cg (k t ht)).2.2 s (by simp at hs ⊢;omega)
theorem VM {many:Nat} {p:Str × List Int} (h:Item many p) (k:∀ t∈p.2,-1≤t∧t≤13) {j:Int} (hj:0≤j∧j≤14):sY 32 (wI j p)∧sY 61 (wI j p):=
 ⟨(((((MT hj).2 32 (by simp)).app (show sY 32 (":":Str) by unfold sY;decide)).app (zg (M4 h) (by simp))).app (show sY 32 ("(":Str) by unfold sY;decide)).app (Rh k (by simp) (by unfold sY;decide)) |>.app (show sY 32 (")":Str) by unfold sY;decide),
  (((((MT hj).2 61 (by simp)).app (show sY 61 (":":Str) by unfold sY;decide)).app (zg (M4 h) (by simp))).app (show sY 61 ("(":Str) by unfold sY;decide)).app (Rh k (by simp) (by unfold sY;decide)) |>.app (show sY 61 (")":Str) by unfold sY;decide)⟩
theorem aau {p:Str × Int} (h:yH p.1) (k: -1≤p.2∧p.2≤13):Xp (wN p)=some (.inl p):=by
 unfold Xp wN
 rw [TL.partition_app (y:="=") (s:=61) (S:=[]) (by decide) (zg h.al (by simp):sY 61 p.1)]
 rw [if_pos rfl,(Cg k).1]
 rfl
theorem aav {z:Str} {c:Nat}:WD (z++⟨#[c]⟩)=⟨#[c]⟩∧fD (z++⟨#[c]⟩)=z:=by
 have e:(z++(⟨#[c]⟩:Str)).cps.toList=z.cps.toList++[c]:=TL.tl_append z ⟨#[c]⟩
 have l:(z++(⟨#[c]⟩:Str)).length=z.length+1:=len_app _ _
 have hz:z.length=z.cps.toList.length:=rfl
 constructor
 ·refine TL.ext_tl ?_
  show (cutS _ _ _).cps.toList=_
  unfold cutS
  rw [l,e]
  show ((z.cps.toList++[c]).drop (HT.sIx (z.length+1) 0 (some (-1)))).take (HT.sIx (z.length+1) (z.length+1) none - HT.sIx (z.length+1) 0 (some (-1)))=[c]
  have:HT.sIx (z.length+1) 0 (some (-1))=z.length:=by unfold HT.sIx;simp;omega
  rw [this,HT.sIx_none,hz,List.drop_left]
  simp
 ·refine TL.ext_tl ?_
  show (cutS _ _ _).cps.toList=_
  unfold cutS
  rw [l,e]
  show ((z.cps.toList++[c]).drop (HT.sIx (z.length+1) 0 none)).take (HT.sIx (z.length+1) (z.length+1) (some (-1)) - HT.sIx (z.length+1) 0 none)=z.cps.toList
  have:HT.sIx (z.length+1) (z.length+1) (some (-1))=z.length:=by unfold HT.sIx;simp;omega
  rw [this,HT.sIx_none,hz,List.drop_zero,Nat.sub_zero,List.take_left]
theorem ab9:∀ {vs:List Int},(∀ t∈vs,-1≤t∧t≤13)→Zb (vs.map mk)=some vs
 | [],_=>rfl
 | v::vs,h=>by
  simp only [List.map_cons,Zb]
  rw [(Cg (h v List.mem_cons_self)).1]
  simp only
  rw [ab9 fun t ht=>h t (List.mem_cons_of_mem _ ht)]
  rfl
theorem Xu {p:Str × List Int} (k:∀ t∈p.2,-1≤t∧t≤13) (Km:p.2≠[]):Txt.split (inn p) ","=p.2.map mk:=
 TL.split_join (y:=",") (s:=44) (S:=[]) (by decide) (by decide+kernel) (fun e=>Km (List.map_eq_nil_iff.mp e)) fun z hz=>by
  obtain ⟨t,ht,rfl⟩:=List.mem_map.mp hz
  exact (Cg (k t ht)).2.2 44 (by simp)
theorem aeH {many:Nat} {p:Str × List Int} (h:Item many p) (k:∀ t∈p.2,-1≤t∧t≤13):ri (p.1++"("++(inn p++")"))=some p:=by
 unfold ri
 rw [TL.partition_app (y:="(") (s:=40) (S:=[]) (by decide) (zg (M4 h) (by simp):sY 40 p.1)]
 simp only
 rw [if_neg (by decide)]
 have el:=aav (z:=inn p) (c:=41)
 have e41:(⟨#[41]⟩:Str)=")":=by decide
 rw [e41] at el
 rw [el.1,if_pos rfl,el.2]
 by_cases c:p.2=[]
 ·have e:inn p="":=by unfold inn;rw [c];decide+kernel
  rw [if_pos e]
  obtain ⟨a,b⟩:=p
  simp only at c
  subst c
  rfl
 ·have hs:=Xu k c
  rw [if_neg fun e=> ?_,hs,ab9 k]
  ·rfl
  ·rw [e] at hs
   have e2:Txt.split ("":Str) ","=[("":Str)]:=by decide+kernel
   rw [e2] at hs
   cases hp:p.2 with
   | nil=>exact c hp
   | cons t ts=>
    rw [hp] at hs
    simp only [List.map_cons,List.cons.injEq] at hs
    have:=(Cg (k t (by rw [hp];exact List.mem_cons_self))).2.1.1
    rw [← hs.1] at this
    exact absurd this (by decide)
theorem ZW {many:Nat} {p:Str × List Int} (h:Item many p) (k:∀ t∈p.2,-1≤t∧t≤13) {j:Int} (hj:0≤j∧j≤14):Xp (wI j p)=some (.inr p):=by
 unfold Xp
 rw [TL.partition_none (y:="=") (s:=61) (S:=[]) (by decide) (VM h k hj).2]
 rw [if_neg (show ¬ (Str.empty:Str)="=" by decide)]
 have e:wI j p=((toString j:String):Str)++":"++(p.1++"("++(inn p++")")):=by
  refine TL.ext_tl ?_
  unfold wI
  simp only [TL.tl_append,List.append_assoc]
 rw [e,TL.partition_app (y:=":") (s:=58) (S:=[]) (by decide) ((MT hj).2 58 (by simp))]
 rw [if_pos rfl]
 simp only
 rw [aeH h k]
 rfl
theorem Jz {many:Nat}:∀ {it:Its} {j:Int} {N:dh} {I:Its},(∀ p∈it,Item many p∧∀ t∈p.2,-1≤t∧t≤13)→0≤j→j+it.length≤14→Je (Dd j it) N I=some (N,I++it)
 | [],_,_,_,_,_,_=>by simp only [Dd,Je,List.append_nil]
 | p::it,j,N,I,h,h0,h1=>by
  simp only [List.length_cons] at h1
  simp only [Dd,Je]
  rw [ZW (h p List.mem_cons_self).1 (h p List.mem_cons_self).2 (by omega)]
  simp only
  rw [Jz (fun q hq=>h q (List.mem_cons_of_mem _ hq)) (by omega) (by omega),List.append_assoc]
  rfl
theorem JG {ws:List Str}:∀ {ld:dh} {N:dh} {I:Its},(∀ p∈ld,yH p.1∧-1≤p.2∧p.2≤13)→Je (ld.map wN++ws) N I=Je ws (N++ld) I
 | [],_,_,_=>by simp only [List.map_nil,List.nil_append,List.append_nil]
 | p::ld,N,I,h=>by
  simp only [List.map_cons,List.cons_append,Je]
  rw [aau (h p List.mem_cons_self).1 (h p List.mem_cons_self).2]
  simp only
  rw [JG fun q hq=>h q (List.mem_cons_of_mem _ hq),List.append_assoc]
  rfl
theorem JZ (h:Raw ld it) (i9:it.length≤13):Je (words ld it) [] []=some (ld,it):=by
 unfold words
 rw [JG fun p hp=>⟨h.hw p hp,t13 h i9 hp⟩,Jz (fun p hp=>⟨h.hi p hp,i13 h i9 hp⟩) (by omega) (by omega)]
 rfl
theorem RW (h:Raw ld it) (i9:it.length≤13):∀ w∈words ld it,sY 32 w:=fun w hw=>by
 rcases List.mem_append.mp hw with hw | hw
 ·obtain ⟨p,hp,rfl⟩:=List.mem_map.mp hw
  exact ac5 (h.hw p hp) (t13 h i9 hp)
 ·obtain ⟨i,hi⟩:=List.getElem?_of_mem hw
  have hl:i<it.length:=by rw [← kh it 1];exact (List.getElem?_eq_some_iff.mp hi).1
  rw [zY (List.getElem?_eq_getElem hl)] at hi
  cases hi
  have hm:=List.getElem_mem hl
  exact (VM (h.hi _ hm) (i13 h i9 hm) (by omega)).1
theorem Rx (h:Raw ld it) (i9:it.length≤13):wordsOf (txt ld it)=words ld it:=by
 unfold txt
 by_cases c:words ld it=[]
 ·rw [if_pos c,c]
  exact if_pos rfl
 ·rw [if_neg c]
  have hs:Txt.split (Txt.join " " (words ld it)) " "=words ld it:=TL.split_join (y:=" ") (s:=32) (S:=[]) (by decide) (by decide+kernel) c (RW h i9)
  unfold wordsOf
  by_cases d:Txt.join " " (words ld it)="empty"
  ·rw [d] at hs
   have e:Txt.split ("empty":Str) " "=[("empty":Str)]:=by decide+kernel
   rw [e] at hs
   have:=JZ h i9
   rw [← hs] at this
   have e2:Je [("empty":Str)] [] []=none:=by
    have e3:Xp ("empty":Str)=none:=by
     unfold Xp
     rw [TL.partition_none (y:="=") (s:=61) (S:=[]) (by decide) (by decide),TL.partition_none (y:=":") (s:=58) (S:=[]) (by decide) (by decide)]
     rfl
    simp only [Je,e3]
   rw [e2] at this
   cases this
  ·rw [if_neg d]
   exact hs
theorem BL (n:Nat) (h:Can ld it) (i9:it.length≤13) (ht:(txt ld it).length≤990) {S:Hs} (hS:NR S):(Mn (n+4)).cal "read_web" [.str (txt ld it)] S=.ok (.val (vN ld it)) S:=by
 have hb:Je (wordsOf (txt ld it)) [] []=some (ld,it):=by rw [Rx h.raw i9];exact JZ h.raw i9
 obtain ⟨hr,hf,e1,e2⟩:=adt h (ac2 h)
 rcases Z4 n ht hS with ⟨N,I,h1,_,_,h2⟩ | ⟨_,h1⟩
 ·rw [hb] at h1
  cases h1
  rw [e1,e2] at h2
  exact h2
 ·exact absurd (by rw [e1,e2]) (h1 ld it hb (af0 hr (by omega) hf))
end
end K04
namespace K04
open PySem L2 Oz
theorem Jk (y:List Nat):∀ ps:List (List Nat),(TL.joinL y ps).length≤(ps.map fun p=>p.length+y.length).sum
 | []=>by simp [TL.joinL]
 | [p]=>by simp [TL.joinL]
 | p::q::r=>by
  have ih:=Jk y (q::r)
  simp only [TL.joinL,List.length_append]
  rw [List.map_cons,List.sum_cons]
  omega
theorem Lp (y:List Nat):∀ ps:List (List Nat),(ps.map fun p=>p.length).sum≤(TL.joinL y ps).length
 | []=>by simp
 | [p]=>by simp [TL.joinL]
 | p::q::r=>by
  have ih:=Lp y (q::r)
  simp only [TL.joinL,List.length_append]
  rw [List.map_cons,List.sum_cons]
  omega
theorem sum_le {α:Type} (f:α→Nat) (b:Nat):∀ xs:List α,(∀ x∈xs,f x≤b)→(xs.map f).sum≤xs.length* b
 | [],_=>by simp
 | x::xs,h=>by
  have h1:=h x List.mem_cons_self
  have h2:=sum_le f b xs fun y hy=>h y (List.mem_cons_of_mem _ hy)
  rw [List.map_cons,List.sum_cons,List.length_cons,Nat.add_mul]
  omega
theorem Ik (y:Str) (ps:List Str):(Txt.join y ps).length≤(ps.map fun p=>p.length+y.length).sum:=by
 rw [TL.join_eq]
 have e:(Str.join y ps).length=(TL.tl (Str.join y ps)).length:=TL.len_tl _
 rw [e,TL.tl_join]
 refine Nat.le_trans (Jk _ _) ?_
 rw [List.map_map]
 exact Nat.le_of_eq rfl
theorem ahE {p:Str × Int} (h:yH p.1) (k: -1≤p.2∧p.2≤13):(wN p).length≤9:=by
 unfold wN
 have h1:=h.hi
 have h2:=(Cg k).2.1.2
 have e:("=":Str).length=1:=by decide
 rw [len_app,len_app,e]
 omega
theorem aeh {many:Nat} {p:Str × List Int} (h:Item many p) (k:∀ t∈p.2,-1≤t∧t≤13):(inn p).length≤6:=by
 unfold inn
 refine Nat.le_trans (Ik _ _) ?_
 have e:(",":Str).length=1:=by decide
 have:=sum_le (fun p:Str=>p.length+(",":Str).length) 3 (p.2.map mk) fun z hz=>by
  obtain ⟨t,ht,rfl⟩:=List.mem_map.mp hz
  have:=(Cg (k t ht)).2.1.2
  rw [e];omega
 refine Nat.le_trans this ?_
 rw [List.length_map]
 have:=h.l
 omega
theorem ahn {many:Nat} {p:Str × List Int} (h:Item many p) (k:∀ t∈p.2,-1≤t∧t≤13) {j:Int} (hj:0≤j∧j≤14):(wI j p).length≤19:=by
 unfold wI
 have h1:=(MT hj).1
 have h2:=h.w.1
 have h3:=aeh h k
 have e1:(":":Str).length=1:=by decide
 have e2:("(":Str).length=1:=by decide
 have e3:(")":Str).length=1:=by decide
 rw [len_app,len_app,len_app,len_app,len_app,e1,e2,e3]
 omega
theorem acE {ld:dh} {it:Its} (h:Raw ld it) (i9:it.length≤13):(txt ld it).length≤320:=by
 unfold txt
 split
 ·decide
 ·refine Nat.le_trans (Ik _ _) ?_
  have e:(" ":Str).length=1:=by decide
  unfold words
  rw [List.map_append,List.sum_append]
  have n6:=h.fit.n6
  have s1:=sum_le (fun p:Str=>p.length+(" ":Str).length) 10 (ld.map wN) fun z hz=>by
   obtain ⟨p,hp,rfl⟩:=List.mem_map.mp hz
   have:=ahE (h.hw p hp) (t13 h i9 hp)
   rw [e];omega
  have s2:=sum_le (fun p:Str=>p.length+(" ":Str).length) 20 (Dd 1 it) fun z hz=>by
   obtain ⟨i,hi⟩:=List.getElem?_of_mem hz
   have hl:i<it.length:=by rw [← kh it 1];exact (List.getElem?_eq_some_iff.mp hi).1
   rw [zY (List.getElem?_eq_getElem hl)] at hi
   cases hi
   have hm:=List.getElem_mem hl
   have:=ahn (h.hi _ hm) (i13 h i9 hm) (j:=1+(i:Nat)) (by omega)
   rw [e];omega
  rw [List.length_map] at s1
  rw [kh] at s2
  omega
theorem ai1 {a b c:Int} {ds:List Int} (h:YS [a,b,c] ds):∃ w x y,ds=[w,x,y]∧(0≤w∧w<a)∧(0≤x∧x<b)∧(0≤y∧y<c):=by
 have hl:=h.len
 match ds,hl with
 | [w,x,y],_=>exact ⟨w,x,y,rfl,h.at_ 0 _ _ rfl rfl,h.at_ 1 _ _ rfl rfl,h.at_ 2 _ _ rfl rfl⟩
theorem aaW {t:Str} (ht:t.length≤320) {S:Hs}:∃ z:Str,z.length≤990∧yd .join S " " (.lst (((Txt.split t " ").map Vl.str).reverse))=some (.str z):=by
 have e1:(" ":Str).length=1:=by decide
 have hl:=PyProof.Rows.split_le t " "
 have aou:((Txt.split t " ").map fun p=>p.length).sum≤t.length:=by
  have e:=TL.tl_join " " (Txt.split t " ")
  rw [PySem.StrLaws.join_split] at e
  have:=Lp (TL.tl " ") ((Txt.split t " ").map TL.tl)
  rw [← e,Od,List.map_map] at this
  exact this
 have perm:∀ (f:Str→Nat),((Txt.split t " ").reverse.map f).sum=((Txt.split t " ").map f).sum:=fun f=>by
  rw [List.map_reverse,List.sum_reverse]
 have plus:∀ xs:List Str,(xs.map fun p=>p.length+(" ":Str).length).sum=(xs.map fun p=>p.length).sum+xs.length:=fun xs=>by
  induction xs with
  | nil=>rfl
  | cons x xs ih=>simp only [List.map_cons,List.sum_cons,List.length_cons];rw [ih,e1];omega
 refine ⟨Txt.join " " (Txt.split t " ").reverse,?_,?_⟩
 ·refine Nat.le_trans (Ik _ _) ?_
  rw [perm,plus]
  omega
 ·have all:∀ qs:List Str,uR (qs.map Vl.str)=some qs:=Lj
  unfold yd
  rw [← List.map_reverse]
  simp only [cV,Option.bind_some,all]
  rw [if_pos]
  rw [perm,e1,List.length_reverse]
  exact jf (by omega)
section
variable {M:aF} {a i:E} {η:Sg} {S S1 S2:Hs} {x y z z0 z1 z2 z3:Str}
theorem ac1 (ha:ev M a η S=.ok (.str x) S1) (hx:x.length+(x.length+1)* z.length≤16777216):ev M (.Vi a y z) η S=.ok (.str (Txt.replace x y z)) S1:=by
 simp only [ev,ha,Res.bind,if_pos hx]
theorem ade {k:Int} (ha:ev M a η S=.ok (.str x) S1) (hi:ev M i η S1=.ok (.int k) S2) (hk:0≤k) (hz:[z0,z1,z2,z3][k.toNat]? =some z) (hn:(y==z)=false) (hx:x.length+(x.length+1)* z.length≤16777216):ev M (.replL a y z0 z1 z2 z3 i) η S=.ok (.str (Txt.replace x y z)) S2:=by
 simp only [ev,ha,hi,Res.bind,hz]
 rw [if_pos ⟨hk,hn,hx⟩]
end
def mks:Str:="0123 =:()-*,a"
theorem afE:∀ k∈List.range 13,(mks.cps.toList[k]?).isSome=true:=by decide+kernel
theorem ag9 {S:Hs} {s:Int}:∃ c,dM S (.str mks) (.int (s%13))=some (.str ⟨#[c]⟩):=by
 have h0:=Int.emod_nonneg s (show (13:Int)≠0 by omega)
 have h1:=Int.emod_lt_of_pos s (show (0:Int)<13 by omega)
 have e:s%13=(((s%13).toNat:Nat):Int):=by omega
 obtain ⟨c,hc⟩:=Option.isSome_iff_exists.mp (afE (s%13).toNat (List.mem_range.mpr (by omega)))
 exact ⟨c,by rw [e];exact ix_str (by decide) hc⟩
abbrev sp (ns:List Int) (k:Nat) (t:Str) (a3 a4 a5 a6 a7 a8:Option Vl):Sg:=[some (zs ns),some (.int k),some (.str t),a3,a4,a5,a6,a7,a8]
theorem aas (n:Nat) (ns:List Int) {k:Nat} {t:Str} (ht:t.length≤320) {S:Hs} (hS:NR S):∃ z:Str,z.length≤990∧(Mn (n+3)).cal "_law_spoilt" [zs ns,.int k,.str t] S=.ok (.val (.str z)) S:=by
 obtain ⟨ds,hd,hc⟩:=tU n ns (k:=k) (sizes:=[8,997,14]) (by decide) (by decide) hS
 obtain ⟨how,place,sign,rfl,h1,h2,h3⟩:=ai1 hd
 rw [JR]
 have fin:∀ {z:Str},z.length≤990→exec (Mn (n+2)) Ba (sp ns k t none none none none none none) S=.ret (.val (.str z)) S→∃ z:Str,z.length≤990∧gK (Mn (n+2)) Aq [zs ns,.int k,.str t] S=.ok (.val (.str z)) S:=fun {z} hz h=>⟨z,hz,cY (T:=[]) rfl (by rw [List.append_nil];exact h) hS (by simp only [Vl.nr])⟩
 have m0:=Int.emod_nonneg place (show ((t.length:Int)+1)≠0 by omega)
 have m1:=Int.emod_lt_of_pos place (show (0:Int)<(t.length:Int)+1 by omega)
 have y0:aP (Mn (n+2)) (.asg (.tp (.cons (.nm 3) (.cons (.nm 4) (.cons (.nm 5) .nil)))) (.call "_law_digits" (.cons (.var 0) (.cons (.var 1) (.cons (.inl (.lst (.cons (.cst (.int 8)) (.cons (.cst (.int 997)) (.cons (.cst (.int 14)) .nil))))) .nil))))) (sp ns k t none none none none none none) S=.nx (sp ns k t (some (.int how)) (some (.int place)) (some (.int sign)) none none none) S:=
  bz _ _ (bJ (aa (v_var rfl) (aa (v_var rfl) (aa (du (lK (aa aj (aa aj (aa aj az))) (show 3≤1000000 by decide))) az))) hc) rfl
 have y1:aP (Mn (n+2)) (.asg (.nm 6) (.bin .Mod (.var 4) (.bin .Add (.b1 .len (.var 2)) (.cst (.int 1))))) (sp ns k t (some (.int how)) (some (.int place)) (some (.int sign)) none none none) S=.nx (sp ns k t (some (.int how)) (some (.int place)) (some (.int sign)) (some (.int (place%((t.length:Int)+1)))) none none) S:=
  bz _ _ (aW (v_var rfl) (aW (dG (v_var rfl) (if_pos (jf (by omega)))) aj (fj _ _)) (jy (by omega))) rfl
 obtain ⟨p,hp⟩:∃ p:Nat,place%((t.length:Int)+1)=p:=⟨(place%((t.length:Int)+1)).toNat,by omega⟩
 rw [hp] at y1
 have y2:aP (Mn (n+2)) (.asg (.nm 7) (.cst (.str "0123 =:()-*,a"))) (sp ns k t (some (.int how)) (some (.int place)) (some (.int sign)) (some (.int p)) none none) S=.nx (sp ns k t (some (.int how)) (some (.int place)) (some (.int sign)) (some (.int p)) (some (.str mks)) none) S:=bz _ _ aj rfl
 have st:∀ {o:Out},exec (Mn (n+2)) _ (sp ns k t (some (.int how)) (some (.int place)) (some (.int sign)) (some (.int p)) (some (.str mks)) none) S=o→exec (Mn (n+2)) Ba (sp ns k t none none none none none none) S=o:=fun {o} h=>aq y0 (aq y1 (aq y2 h))
 have eqN:∀ {c:Nat} {d:Bool},decide (how=(c:Int))=d→ev (Mn (n+2)) (.cmp .Eq (.var 3) (.cst (.int c))) (sp ns k t (some (.int how)) (some (.int place)) (some (.int sign)) (some (.int p)) (some (.str mks)) none) S=.ok (.bl d) S:=fun {c d} h=>aK (v_var rfl) aj (by rw [← h];simp [cmpop,yh,Yt])
 have lo:ev (Mn (n+2)) (.Cu (.var 2) .none (.some (.var 6))) (sp ns k t (some (.int how)) (some (.int place)) (some (.int sign)) (some (.int p)) (some (.str mks)) none) S=.ok (.str (cutS t none (some (p:Int)))) S:=Br (v_var rfl) qC (qF (v_var rfl)) (PL (by omega))
 have hi:ev (Mn (n+2)) (.Cu (.var 2) (.some (.var 6)) .none) (sp ns k t (some (.int how)) (some (.int place)) (some (.int sign)) (some (.int p)) (some (.str mks)) none) S=.ok (.str (cutS t (some (p:Int)) none)) S:=Br (v_var rfl) (qF (v_var rfl)) qC (PL (by omega))
 have hi1:ev (Mn (n+2)) (.Cu (.var 2) (.some (.bin .Add (.var 6) (.cst (.int 1)))) .none) (sp ns k t (some (.int how)) (some (.int place)) (some (.int sign)) (some (.int p)) (some (.str mks)) none) S=.ok (.str (cutS t (some ((p:Int)+1)) none)) S:=Br (v_var rfl) (qF (aW (v_var rfl) aj (fj _ _))) qC (PL (by omega))
 obtain ⟨c,hcm⟩:=ag9 (S:=S) (s:=sign)
 have mk:ev (Mn (n+2)) (.idx (.var 7) (.bin .Mod (.var 5) (.cst (.int 13)))) (sp ns k t (some (.int how)) (some (.int place)) (some (.int sign)) (some (.int p)) (some (.str mks)) none) S=.ok (.str ⟨#[c]⟩) S:=dw (v_var rfl) (aW (v_var rfl) aj (jy (by decide))) hcm
 have l1:=DK t none (some (p:Int))
 have l2:=DK t (some (p:Int)) none
 have l3:=DK t (some ((p:Int)+1)) none
 have lc:(⟨#[c]⟩:Str).length=1:=rfl
 have sl:∀ {x y:Str},x.length≤1000→y.length≤1000→x.length+y.length≤sizeLine:=fun {x y} h k=>Nat.le_trans (Nat.add_le_add h k) (by decide)
 by_cases c0:how=0
 ·refine fin (z:=cutS t none (some (p:Int))++⟨#[c]⟩++cutS t (some (p:Int)) none) (by rw [len_app,len_app];omega) (st (bF (cQ _ (eqN (c:=0) (decide_eq_true c0)) (bF (dI _ _ (aW (aW lo mk (eX (sl (by omega) (by omega)))) hi (eX (sl (by rw [len_app];omega) (by omega)))))))))
 have y3:=bD (M:=Mn (n+2)) (a:=.cons (.ret (.bin .Add (.bin .Add (.Cu (.var 2) .none (.some (.var 6))) (.idx (.var 7) (.bin .Mod (.var 5) (.cst (.int 13))))) (.Cu (.var 2) (.some (.var 6)) .none))) .nil) (b:=.nil) S (eqN (c:=0) (decide_eq_false c0)) aM
 by_cases c1:how=1
 ·refine fin (z:=cutS t none (some (p:Int))++⟨#[c]⟩++cutS t (some ((p:Int)+1)) none) (by rw [len_app,len_app];omega) (st (aq y3 (bF (cQ _ (eqN (c:=1) (decide_eq_true c1)) (bF (dI _ _ (aW (aW lo mk (eX (sl (by omega) (by omega)))) hi1 (eX (sl (by rw [len_app];omega) (by omega))))))))))
 have y4:=bD (M:=Mn (n+2)) (a:=.cons (.ret (.bin .Add (.bin .Add (.Cu (.var 2) .none (.some (.var 6))) (.idx (.var 7) (.bin .Mod (.var 5) (.cst (.int 13))))) (.Cu (.var 2) (.some (.bin .Add (.var 6) (.cst (.int 1)))) .none))) .nil) (b:=.nil) S (eqN (c:=1) (decide_eq_false c1)) aM
 by_cases c2:how=2
 ·refine fin (z:=cutS t none (some (p:Int))++cutS t (some ((p:Int)+1)) none) (by rw [len_app];omega) (st (aq y3 (aq y4 (bF (cQ _ (eqN (c:=2) (decide_eq_true c2)) (bF (dI _ _ (aW lo hi1 (eX (sl (by omega) (by omega)))))))))))
 have y5:=bD (M:=Mn (n+2)) (a:=.cons (.ret (.bin .Add (.Cu (.var 2) .none (.some (.var 6))) (.Cu (.var 2) (.some (.bin .Add (.var 6) (.cst (.int 1)))) .none))) .nil) (b:=.nil) S (eqN (c:=2) (decide_eq_false c2)) aM
 by_cases c3:how=3
 ·have q0:=Int.emod_nonneg sign (show (4:Int)≠0 by omega)
  have q1:=Int.emod_lt_of_pos sign (show (0:Int)<4 by omega)
  obtain ⟨z,hz,hzl,hzn⟩:∃ z:Str,[("2":Str),"01","11","-"][(sign%4).toNat]? =some z∧z.length≤2∧(("1":Str)==z)=false:=by
   have:sign%4=0∨sign%4=1∨sign%4=2∨sign%4=3:=by omega
   rcases this with e | e | e | e<;>rw [e]
   ·exact ⟨_,rfl,by decide,by decide⟩
   ·exact ⟨_,rfl,by decide,by decide⟩
   ·exact ⟨_,rfl,by decide,by decide⟩
   ·exact ⟨_,rfl,by decide,by decide⟩
  have hb:t.length+(t.length+1)* z.length≤962:=by
   have:(t.length+1)* z.length≤(t.length+1)* 2:=Nat.mul_le_mul_left _ hzl
   omega
  refine fin (z:=Txt.replace t "1" z) (Nat.le_trans (TK.replace_len t "1" z) (by omega)) (st (aq y3 (aq y4 (aq y5 (bF (cQ _ (eqN (c:=3) (decide_eq_true c3)) (bF (dI _ _ (ade (v_var rfl) (aW (v_var rfl) aj (jy (by decide))) q0 hz hzn (by omega))))))))))
 have y6:=bD (M:=Mn (n+2)) (a:=.cons (.ret (.replL (.var 2) "1" "2" "01" "11" "-" (.bin .Mod (.var 5) (.cst (.int 4))))) .nil) (b:=.nil) S (eqN (c:=3) (decide_eq_false c3)) aM
 by_cases c4:how=4
 ·obtain ⟨z,hz,hj⟩:=aaW ht (S:=S)
  refine fin hz (st (aq y3 (aq y4 (aq y5 (aq y6 (bF (cQ _ (eqN (c:=4) (decide_eq_true c4)) (aq (bz _ _ (du (ye (v_var rfl) aj (by decide) (by omega))) rfl) (bF (dI _ _ (xG aj (du (aka (v_var rfl) rfl)) hj)))))))))))
 have y7:=bD (M:=Mn (n+2)) (a:=.cons (.asg (.nm 8) (.inl (.split (.var 2) (.cst (.str " "))))) (.cons (.ret (.tm .join (.cst (.str " ")) (.inl (.rev (.var 8))))) .nil)) (b:=.nil) S (eqN (c:=4) (decide_eq_false c4)) aM
 have q0:=Int.emod_nonneg sign (show (7:Int)≠0 by omega)
 have q1:=Int.emod_lt_of_pos sign (show (0:Int)<7 by omega)
 have b1:(" ":Str).length=1:=by decide
 have b2:("\n":Str).length=1:=by decide
 have b3:("  ":Str).length=2:=by decide
 have hr:t.length+(t.length+1)* ("  ":Str).length≤962:=by rw [b3];omega
 obtain ⟨z,hz,hzl⟩:∃ z:Str,[Vl.str t,.str (t++" "),.str (" "++t),.str "",.str "empty ",.str (t++"\n"),.str (Txt.replace t " " "  ")][(sign%7).toNat]? =some (.str z)∧z.length≤990:=by
  have:sign%7=0∨sign%7=1∨sign%7=2∨sign%7=3∨sign%7=4∨sign%7=5∨sign%7=6:=by omega
  rcases this with e | e | e | e | e | e | e<;>rw [e]
  ·exact ⟨_,rfl,by omega⟩
  ·exact ⟨_,rfl,by rw [len_app];omega⟩
  ·exact ⟨_,rfl,by rw [len_app];omega⟩
  ·exact ⟨_,rfl,by decide⟩
  ·exact ⟨_,rfl,by decide⟩
  ·exact ⟨_,rfl,by rw [len_app];omega⟩
  ·exact ⟨_,rfl,Nat.le_trans (TK.replace_len t " " "  ") (by omega)⟩
 have hs:sign%7=(((sign%7).toNat:Nat):Int):=by omega
 refine fin hzl (st (aq y3 (aq y4 (aq y5 (aq y6 (aq y7 (bF (dI _ _ (dw (du (lK (aa (v_var rfl) (aa (aW (v_var rfl) aj (eX (sl (by omega) (by omega)))) (aa (aW aj (v_var rfl) (eX (sl (by omega) (by omega)))) (aa aj (aa aj (aa (aW (v_var rfl) aj (eX (sl (by omega) (by omega)))) (aa (ac1 (v_var rfl) (by omega)) az))))))) (show 7≤1000000 by decide))) (aW (v_var rfl) aj (jy (by decide))) (by rw [hs];exact jE hz))))))))))
end K04
namespace K04
open PySem L2 Oz
theorem G3 (n:Nat) {t:Str} {v:Vl} (hv:v.nr=true) {S:Hs} (hS:NR S) (h:(Mn (n+4)).cal "read_web" [.str t] S=.ok (.val v) S):(Mn (n+5)).cal "_law_reads" [.str t] S=.ok (.val (.tup [.str "",v])) S:=by
 rw [GF]
 refine cY (T:=[]) rfl ?_ hS (by simp only [Vl.nr,dH,hv,Bool.and_self])
 show exec (Mn (n+4)) Gn [some (.str t),none,none,none] S=_
 rw [List.append_nil]
 exact aq (bz _ _ (jg (aa aj (aa aj az)) (show 2≤1000000 by decide)) rfl) (aq (ahO (Ey (bz _ _ (bJ (r:=.val v) (aa (v_var rfl) az) h) rfl))) (bF (dI _ _ (jg (aa (v_var rfl) (aa (v_var rfl) az)) (show 2≤1000000 by decide)))))
theorem abS (n:Nat) {t:Str} {S:Hs} (hS:NR S) (h:(Mn (n+4)).cal "read_web" [.str t] S=.exc bt S):(Mn (n+5)).cal "_law_reads" [.str t] S=.ok (.val (.tup [.str "BadText",.non])) S:=by
 rw [GF]
 refine cY (T:=[]) rfl ?_ hS (by simp only [Vl.nr,dH,Bool.and_self])
 show exec (Mn (n+4)) Gn [some (.str t),none,none,none] S=_
 rw [List.append_nil]
 have bad:exec (Mn (n+4)) zP [some (.str t),some (.str ""),some .non,none] S=.exc bt [some (.str t),some (.str ""),some .non,none] S:=cA (by simp only [aP];rw [xV (aa (v_var rfl) az) h];rfl)
 have tr:aP (Mn (n+4)) (.try_ zP "BadText" 3 Jj) [some (.str t),some (.str ""),some .non,none] S=.nx [some (.str t),some (.str "BadText"),some .non,none] S:=
  agJ (η2:=[some (.str t),some (.str "BadText"),some .non,some (.err "BadText" [] [])]) bad (sbT (by decide+kernel)) rfl (afg hS) (Ey (bz _ _ (bJ (r:=.val (.str "BadText")) (aa (v_var rfl) az) (ajH (n+3) hS)) rfl)) rfl (afg hS)
 exact aq (bz _ _ (jg (aa aj (aa aj az)) (show 2≤1000000 by decide)) rfl) (aq tr (bF (dI _ _ (jg (aa (v_var rfl) (aa (v_var rfl) az)) (show 2≤1000000 by decide)))))
theorem Pn (n:Nat) {ld:dh} {it:Its} (h:Raw ld it) {S:Hs} (hS:NR S):(Mn (n+1)).cal "_law_same" [.str (txt ld it),.str (txt ld it)] S=.ok (.val (.bl true)) S:=
 Z6 n (by simp only [Vl.pd];exact W7 (abQ h).2) (by simp only [Vl.dep];omega) (by simp only [Vl.wt];have:=(abQ h).1;omega) hS
abbrev sG (ns:List Int) (i a2 a3 a4 a5 a6:Option Vl):Sg:=[some (zs ns),i,a2,a3,a4,a5,a6]
theorem abE (n:Nat) (ns:List Int) {i:Nat} {S:Hs} (hS:NR S) (a2 a3 a4 a5 a6:Option Vl) :
  ∃ b2 b3 b4 b5 b6,exec (Mn (n+5)) Mg (sG ns (some (.int (i:Nat))) a2 a3 a4 a5 a6) S=.nx (sG ns (some (.int (i:Nat))) b2 b3 b4 b5 b6) S:=by
 obtain ⟨nm,it0,raw,i9,hraw⟩:=aiA (n+1) ns (k:=12* i) hS
 have can:=Ud raw
 have i13:(iT nm it0).length≤13:=by rw [uA];exact Nat.le_trans (rG raw.fit) i9
 generalize eO nm it0=ld at *
 generalize iT nm it0=it at *
 have tl:=acE can.raw i13
 have ek:(12:Int)* (i:Int)=((12* i:Nat):Int):=by omega
 have ek2:((12* i:Nat):Int)+11=((12* i+11:Nat):Int):=by omega
 have mul:binop .Mult (.int 12) (.int (i:Int))=some (.int ((12* i:Nat):Int)):=by rw [rF (by omega) (by omega),ek]
 have aeX:=BL n can i13 (by omega) hS
 have afT:=G3 n (Ms ld it) hS aeX
 obtain ⟨p1,p2,p3⟩:=ajw can.raw i13
 obtain ⟨z,hz,Cp⟩:=aas (n+2) ns (k:=12* i+11) tl hS
 have y0:aP (Mn (n+5)) _ (sG ns (some (.int (i:Nat))) a2 a3 a4 a5 a6) S=.nx (sG ns (some (.int (i:Nat))) (some (rv ld it)) a3 a4 a5 a6) S:=bz (t:=.nm 2) _ _ (bJ (m:="_law_raw") (r:=.val (rv ld it)) (aa (v_var (i:=0) rfl) (aa (aW (op:=.Mult) aj (v_var (i:=1) rfl) mul) (aa (du (lK (aa (jg (aa aj (aa aj az)) (show 2≤1000000 by decide)) (aa (jg (aa aj (aa aj az)) (show 2≤1000000 by decide)) (aa (jg (aa aj (aa aj az)) (show 2≤1000000 by decide)) az))) (show 3≤1000000 by decide))) (aa aj az)))) hraw) rfl
 have y1:aP (Mn (n+5)) (.asg (.nm 3) (.call "_law_text" (.cons (.var 2) .nil))) (sG ns (some (.int (i:Nat))) (some (rv ld it)) a3 a4 a5 a6) S=.nx (sG ns (some (.int (i:Nat))) (some (rv ld it)) (some (.str (txt ld it))) a4 a5 a6) S:=bz _ _ (bJ (r:=.val (.str (txt ld it))) (aa (v_var rfl) az) (Wi (n+3) can.raw hS)) rfl
 have y2:aP (Mn (n+5)) (.asg (.tp (.cons (.nm 4) (.cons (.nm 5) .nil))) (.call "_law_reads" (.cons (.var 3) .nil))) (sG ns (some (.int (i:Nat))) (some (rv ld it)) (some (.str (txt ld it))) a4 a5 a6) S=.nx (sG ns (some (.int (i:Nat))) (some (rv ld it)) (some (.str (txt ld it))) (some (.str "")) (some (vN ld it)) a6) S:=bz _ _ (bJ (r:=.val (.tup [.str "",vN ld it])) (aa (v_var rfl) az) afT) rfl
 have y3:aP (Mn (n+5)) (.ite (.bor (.cmp .NotEq (.var 4) (.cst (.str ""))) (.pK (.call "_law_same" (.cons (.call "_law_told" (.cons (.var 5) .nil)) (.cons (.var 2) .nil))))) (.cons (.ret (.cst (.bl false))) .nil) .nil) (sG ns (some (.int (i:Nat))) (some (rv ld it)) (some (.str (txt ld it))) (some (.str "")) (some (vN ld it)) a6) S=.nx (sG ns (some (.int (i:Nat))) (some (rv ld it)) (some (.str (txt ld it))) (some (.str "")) (some (vN ld it)) a6) S:=
  bD _ (uE (aK (v_var rfl) aj (neZ.trans (congrArg some (by rw [decide_eq_true rfl];rfl)))) (jK (d:=true) (bJ (r:=.val (.bl true)) (aa (bJ (r:=.val (rv ld it)) (aa (v_var rfl) az) (ahy (n+3) hS)) (aa (v_var rfl) az)) (Z6 (n+4) p1 p2 p3 hS)))) aM
 have y4:aP (Mn (n+5)) (.asg (.nm 6) (.call "_law_spoilt" (.cons (.var 0) (.cons (.bin .Add (.bin .Mult (.cst (.int 12)) (.var 1)) (.cst (.int 11))) (.cons (.var 3) .nil))))) (sG ns (some (.int (i:Nat))) (some (rv ld it)) (some (.str (txt ld it))) (some (.str "")) (some (vN ld it)) a6) S=.nx (sG ns (some (.int (i:Nat))) (some (rv ld it)) (some (.str (txt ld it))) (some (.str "")) (some (vN ld it)) (some (.str z))) S:=
  bz _ _ (bJ (r:=.val (.str z)) (aa (v_var rfl) (aa (aW (aW aj (v_var rfl) mul) aj (by rw [fj,ek2])) (aa (v_var rfl) az))) Cp) rfl
 rcases Z4 n hz hS with ⟨N0,I0,_,hvd,hzt,hrw⟩ | ⟨hrw,_⟩
 ·have TV:=G3 n (Ms _ _) hS hrw
  have adb:=Ud (aam hvd).1
  generalize eO N0 I0=N at *
  generalize iT N0 I0=I at *
  subst hzt
  refine ⟨some (rv ld it),some (.str (txt ld it)),some (.str ""),some (vN N I),some (.str (txt N I)),?_⟩
  have y5:aP (Mn (n+5)) (.asg (.tp (.cons (.nm 4) (.cons (.nm 5) .nil))) (.call "_law_reads" (.cons (.var 6) .nil))) (sG ns (some (.int (i:Nat))) (some (rv ld it)) (some (.str (txt ld it))) (some (.str "")) (some (vN ld it)) (some (.str (txt N I)))) S=.nx (sG ns (some (.int (i:Nat))) (some (rv ld it)) (some (.str (txt ld it))) (some (.str "")) (some (vN N I)) (some (.str (txt N I)))) S:=bz _ _ (bJ (r:=.val (.tup [.str "",vN N I])) (aa (v_var rfl) az) TV) rfl
  exact aq y0 (aq y1 (aq y2 (aq y3 (aq y4 (aq y5 (Ey (cQ _ (aK (v_var rfl) aj (eqZ.trans (congrArg some (decide_eq_true rfl)))) (aq (bD _ (uE (jK (d:=true) (TQ (v_var rfl) (jk S _ _))) (jK (d:=true) (bJ (r:=.val (.bl true)) (aa (V7 (v_var rfl) (yN (by decide)) (Xa (n+2) adb.raw hS)) (aa (v_var rfl) az)) (Pn (n+4) adb.raw hS)))) aM) (Ey (bD _ (jK (d:=true) (bJ (r:=.val (.bl true)) (aa (bJ (r:=.val (.str (txt N I))) (aa (jg (aa (aah (r:=.frs (.lst (valN N))) (v_var rfl) (yN (by decide)) az (VB (n+4) hS)) (aa (aah (r:=.frs (.lst (aY I))) (v_var rfl) (yN (by decide)) az (Wk (n+4) hS)) az)) (show 2≤1000000 by decide)) az) (Wi (n+3) adb.raw hS)) (aa (v_var rfl) az)) (Pn (n+4) adb.raw hS))) aM))))))))))
 ·have TV:=abS n hS hrw
  have Km:z≠txt ld it:=fun e=>by
   rw [e,aeX] at hrw
   cases hrw
  refine ⟨some (rv ld it),some (.str (txt ld it)),some (.str "BadText"),some .non,some (.str z),?_⟩
  have y5:aP (Mn (n+5)) (.asg (.tp (.cons (.nm 4) (.cons (.nm 5) .nil))) (.call "_law_reads" (.cons (.var 6) .nil))) (sG ns (some (.int (i:Nat))) (some (rv ld it)) (some (.str (txt ld it))) (some (.str "")) (some (vN ld it)) (some (.str z))) S=.nx (sG ns (some (.int (i:Nat))) (some (rv ld it)) (some (.str (txt ld it))) (some (.str "BadText")) (some .non) (some (.str z))) S:=bz _ _ (bJ (r:=.val (.tup [.str "BadText",.non])) (aa (v_var rfl) az) TV) rfl
  exact aq y0 (aq y1 (aq y2 (aq y3 (aq y4 (aq y5 (Ey (bD _ (aK (v_var rfl) aj (eqZ.trans (congrArg some (by decide)))) (Ey (bD _ (uE (aK (v_var rfl) aj (neZ.trans (congrArg some (by decide)))) (aK (v_var rfl) (v_var rfl) (eqZ.trans (congrArg some (decide_eq_false Km))))) aM)))))))))
theorem Vr:Raw [] []:=⟨⟨List.Pairwise.nil,by decide,by decide,fun p h=>(by cases h),fun p h=>(by cases h),fun p h=>(by cases h)⟩,fun p h=>(by cases h),fun p h=>(by cases h)⟩
theorem aeu:Can [] []:=⟨Vr,rfl,rfl⟩
theorem txt_nil:txt [] []=("empty":Str):=by exact if_pos (show words [] []=[] from rfl)
theorem aep (S:Hs) (ld:dh) (it:Its):eqY S "Web" (vN ld it)=true:=rfl
theorem aaN (n:Nat) {S:Hs} (hS:NR S):(Mn (n+1)).cal (dot "Web" "__eq__") [vN [] [],vN [] []] S=.ok (.val (.bl true)) S:=by
 rw [Ec]
 refine cY (T:=[]) rfl ?_ hS (by simp only [Vl.nr])
 show exec (Mn n) Ft [some (vN [] []),some (vN [] [])] S=_
 rw [List.append_nil]
 have e1:cmpop .Eq S (.dct (([]:dh).map fun p=>Sum.inr p.1) (([]:dh).map fun p=>.int p.2)) (.dct (([]:dh).map fun p=>Sum.inr p.1) (([]:dh).map fun p=>.int p.2))=some true:=rfl
 have e2:cmpop .Eq S (.lst (aY [])) (.lst (aY []))=some true:=eq_nil (xs:=[]) (by simp only [Il]) (by simp only [pY];omega)
 exact bF (dI _ _ (oW (TQ (v_var rfl) (jk S _ _)) (oW (aK (Hw (v_var rfl) (jk S _ _) vD) (Hw (v_var rfl) (jk S _ _) vD) e1) (aK (Hw (v_var rfl) (jk S _ _) vp) (Hw (v_var rfl) (jk S _ _) vp) e2))))
theorem abG (ns:List Int) (h:ns.length≤63):∃ T,exec (Mn 10) Xd (some (.lst (ns.map .int))::List.replicate 6 none) []=.ret (.val (.bl true)) T:=by
 have loop:∃ b1 b2 b3 b4 b5 b6,forL (fun η1 S2=>exec (Mn 10) Mg η1 S2) (.nm 1) [] (jd 0 5) (sG ns none none none none none none) []=.nx (sG ns b1 b2 b3 b4 b5 b6) []:=by
  obtain ⟨η',S',g,b1,b2,b3,b4,b5,b6,e1,e2⟩:=gW (body:=fun η1 S2=>exec (Mn 10) Mg η1 S2) (t:=.nm 1) (lk:=[]) (xs:=jd 0 5) (η:=sG ns none none none none none none) (S:=[])
   (fun _ η S'=>∃ b1 b2 b3 b4 b5 b6,η=sG ns b1 b2 b3 b4 b5 b6∧S'=[]) ⟨none,none,none,none,none,none,rfl,rfl⟩ (fun _ η S' _=>aU _) fun i x η S' hx ⟨b1,b2,b3,b4,b5,b6,e1,e2⟩=>by
    subst e1 e2
    obtain ⟨hi,rfl⟩:=qI hx
    obtain ⟨c2,c3,c4,c5,c6,he⟩:=abE 5 ns (i:=i) NR.nil b2 b3 b4 b5 b6
    exact ⟨_,rfl,_,_,.inl he,_,_,_,_,_,_,rfl,rfl⟩
  subst e1 e2
  exact ⟨_,_,_,_,_,_,g⟩
 obtain ⟨b1,b2,b3,b4,b5,b6,lp⟩:=loop
 have hN:NR []:=NR.nil
 have told:=BL 5 aeu (by decide) (by rw [txt_nil];decide) hN
 rw [txt_nil] at told
 have rd:=G3 5 (Ms [] []) hN told
 have args:evs (Mn 10) (.cons (.cst (.tup [])) (.cons (.cst (.tup [])) .nil)) (sG ns b1 b2 b3 b4 b5 b6) []=.ok [.tup [],.tup []] []:=aa aj (aa aj az)
 have nw:=afm 7 Vr (by decide) rfl (aaQ [] []) (aaQ [] []) hN args
 exact ⟨_,aq (jJ _ _ _ (mD (k:=5) aj (by decide)) lp) (bF (dI _ _ (aeR (d:=true) (ng:=false) (dw (bJ (r:=.val (.tup [.str "",vN [] []])) (aa aj az) rd) aj (ix_tup (i:=1) rfl)) (du nw) (yN (by decide)) (aep _ _ _) (aaN 9 hN))))⟩
end K04
end OzTac
open PySem PySem.W PyProof.Rows
local macro_rules | `(tactic| tm_at "ozFK")=>`(tactic| first
 | (refine' Oz.ai2 ?a ?b ?c ?d;(case a=>k_is);(case b=>k_is);(case c=>k_is);(case d=>k_is))
 | (refine' Oz.aj9 ?a ?b ?c ?d ?e ?f ?g ?h ?i<;>k_is)
 | (refine' Oz.ajy ?a ?b ?c ?d ?e;(case a=>k_is);(case b=>k_is);(case c=>k_is);(case d=>k_is);(case e=>k_is)))
local macro_rules | `(tactic| tm_at "ozKA")=>`(tactic| first
 | exact trivial
 | (refine ⟨⟨.inl ⟨rfl,rfl⟩,?_⟩,?_⟩;(focus (k_is));(focus (tm_at "ozKA")))
 | (refine ⟨⟨.inr rfl,?_⟩,?_⟩;(focus (k_is));(focus (tm_at "ozKA")))
 | (refine ⟨⟨rfl,?_⟩,?_⟩;(focus (k_is));(focus (tm_at "ozKA"))))
local macro_rules | `(tactic| tm_at "ozAF")=>`(tactic| first
 | exact trivial
 | (refine ⟨⟨?_,?_⟩,?_⟩;(focus (k_is));(focus (k_is));(focus (tm_at "ozAF")))
 | (refine ⟨trivial,?_⟩;tm_at "ozAF"))
def PySem.W.Fast.tw5041800898237069697:Nat:=0
def PySem.W.Fast.tw1475873305465315938:Nat:=0
def PySem.W.Fast.tw453121116502645666:Nat:=0
def PySem.W.Fast.tw4900922405277237155:Nat:=0
def PySem.W.Fast.tw5250127270444413476:Nat:=0
def PySem.W.Fast.tw1459915138406768164:Nat:=0
def PySem.W.Fast.tw16262163138638579685:Nat:=0
def PySem.W.Fast.tw7675950766636541606:Nat:=0
def PySem.W.Fast.tw13731174729730580519:Nat:=0
def PySem.W.Fast.tw7162474442490177225:Nat:=0
def PySem.W.Fast.tw998979156288120267:Nat:=0
def PySem.W.Fast.tw11112635521152785036:Nat:=0
def PySem.W.Fast.tw6205279309011672973:Nat:=0
def PySem.W.Fast.tw18107502666418516432:Nat:=0
def PySem.W.Fast.tw17504103316790713938:Nat:=0
def PySem.W.Fast.tw7602609099018334421:Nat:=0
def PySem.W.Fast.tw6517225053262817078:Nat:=0
def PySem.W.Fast.tw957482090848590040:Nat:=0
def PySem.W.Fast.tw2971424297991445016:Nat:=0
def PySem.W.Fast.tw212823832238242392:Nat:=0
def PySem.W.Fast.tw13251539099827601240:Nat:=0
def PySem.W.Fast.tw1394119377666693401:Nat:=0
def PySem.W.Fast.tw1775383404244514650:Nat:=0
def PySem.W.Fast.tw5487782778822108605:Nat:=0
def PySem.W.Fast.tw13428464197257071581:Nat:=0
def PySem.W.Fast.tw14893080438367910078:Nat:=0
def PySem.W.Fast.tw6693488275486985854:Nat:=0
set_option maxHeartbeats 0 in
theorem PySem.Challenge.cw_osier_k04_texts_of_webs_read_holds : PySem.Challenge.rw_osier_k04_texts_of_webs_read.Holds := by
 w_on;o_law;k_head;(case hw=>w_witness2)
 k_fill
 refine Oz.af7 (l:=PySem.Challenge.rw_osier_k04_texts_of_webs_read) (n:=63) (k:=44) (x:="_law_script") rfl (by decide) rfl ⟨rfl,by decide,by decide⟩ (fun w h Y=>PySem.W.kIn_of Y) ?F
 case F=>
  intro w mg fa h KX G hmg
  refine' K04.agf KX G hmg K04.abG ?_ ?_ ?_ ?_ ?_ ?_ ?_ ?_ ?_ ?_ ?_ ?_ ?_ ?_ ?_ ?_ ?_ ?_ ?_ ?_ ?_ ?_ ?_ ?_ ?_ ?_ ?_ ?_ ?_ ?_ ?_ ?_ ?_ ?_ ?_ ?_ ?_ ?_ ?_ ?_ ?_ ?_ ?_ ?_ ?_ ?_ ?_ ?_ ?_ ?_ ?_ ?_ ?_ ?_ ?_ ?_ ?_ ?_ ?_ ?_ ?_ ?_ ?_ ?_ ?_ ?_ ?_ ?_ ?_ ?_ ?_ ?xaf ?_ ?wD ?qW ?_ ?Bh ?vf ?_ ?wH ?wM ?_ ?_ ?_ ?_ ?_ ?_ ?_ ?_ ?oY ?ni ?jL ?oF ?jP ?_ ?_ ?_ ?_ ?_ ?_ ?_ ?_ ?_ ?_ ?_ ?_ ?_ ?_ ?_ ?_ ?_ ?_ ?_ ?_ ?_ ?_ ?_ ?_ ?_ ?_ ?_ ?_ ?_ ?_ ?_
  any_goals (first | (with_reducible show _=_;k_is) | tm_at "ozFK")
  (case xaf=>tm_at "ozAF")
  (case wD=>tm_at "ozKA")
  (case qW=>refine' Oz.afp ?a ?b ?c ?d ?e ?f ?g ?h;(case a=>k_is);(case b=>rfl);(case c=>k_is);(case d=>k_is);(case e=>k_is);(case f=>k_is);(case g=>k_is);(case h=>k_is))
  (case Bh=>tm_at "ozKA")
  (case vf=>refine' Oz.afp ?a ?b ?c ?d ?e ?f ?g ?h;(case a=>k_is);(case b=>rfl);(case c=>k_is);(case d=>k_is);(case e=>k_is);(case f=>k_is);(case g=>k_is);(case h=>k_is))
  (case wH=>tm_at "ozKA")
  (case wM=>k_exc)
  (case oY=>exact (.cons rfl (.cons rfl .nil)))
  (case ni=>k_is)
  (case jL=>exact ⟨by decide,.nil⟩)
  (case oF=>k_is)
  (case jP=>exact ⟨by decide,.nil⟩)
