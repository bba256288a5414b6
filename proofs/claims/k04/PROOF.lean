import PyProof.Rows.All
import Wide.All
import OpenK.AllK
import Wide.FinOn
import HandS.ForMost
import HandS.Exc
import HandS.TryOnly
import HandS.ExcOwn
import HandS.WordsExc
import HandS.Defaults
import HandS.StrMore
import HandS.Small
import HandS.Style
import HandS.TupAny
import HandS.TupMul
import HandS.DictEq
import HandS.Dict
import HandS.HotCalls
import PyProof.EqKinds
import HandS.Deep
import HandS.RaiseMore
import HandS.More
import HandS.NoneIn
import HandS.Text
import HandS.CallSlots
import HandS.Zip
import HandS.Iter
import KE.GoesMore
import KE.GoesEnumKw
import PyProof.Rows.SetFrom
import HandS.Set
import HandS.SetTxt0
import HandS.SetBool
import HandS.SetFor
import HandS.SortInts
import PyProof.Rows.SortShellAny
import HandS.SortOrd
import HandS.IsInst
import PyProof.InstNe
import HandS.MakeKwOnly
import PyProof.CollectIter
import PyProof.WalksMore
import HandS.TupSets
import HandS.Keys
import HandS.Sort
import KE.KSortTupAny
import PyProof.EqAt
import HandS.Replace
import HandS.ReplaceLit
import HandS.EndOwn
import PyProof.Rows.RegFStrParts
import HandS.FStr
import HandS.DictComp
import HandS.SortKw
import HandS.ExcInit
import HandS.ExcIs
import HandS.ExcField
import KE.KExcIs
import KE.KExcInit
import HandS.ExcCtx
import HandS.ExcInitHot
import HandS.SuiteRaise
import HandS.RaiseFrom
import HandS.Comp
import KE.GoesRaise
import HandS.ListItems
import KE.KIndexOf
import KE.KTryMore
import HandS.Flow
import PySem.Challenge.RW_osier_k04_texts_of_webs_read
import PyProof.Rows.StrItems
import PyProof.StrLawsChain
set_option Elab.async false
set_option linter.all false
set_option maxRecDepth 100000
set_option maxHeartbeats 4000000
namespace Oz
open PySem L2
inductive Vl where
 | non | bl (b:Bool) | int (i:Int) | str (s:Str)
 | tup (xs:List Vl) | lst (xs:List Vl) | dct (ks:List Key) (vs:List Vl) | obj (c:Str) (ns:List Str) (vs:List Vl)
 | err (c:Str) (ns:List Str) (vs:List Vl)
 | ref (r:Nat)
 deriving Inhabited
inductive Ob where
 | lst (xs:List Vl) | dct (ks:List Key) (vs:List Vl) | ins (c:Str) (ns:List Str) (vs:List Vl)
 | Ac (ks:List Key) (vs:List Vl)
 deriving Inhabited
def Ob.inl:Ob→Vl
 | .lst xs=>.lst xs
 | .dct ks vs=>.dct ks vs
 | .ins c ns vs=>.obj c ns vs
 | .Ac ks vs=>.dct ks vs
abbrev Hs:=List Ob
abbrev Sg:=List (Option Vl)
structure Xc where
 c:Str
 fs:Option (List Str × List Vl)
inductive Res (α:Type) where
 | ok (a:α) (S:Hs) | exc (x:Xc) (S:Hs) | bad
def Res.bind {α β:Type} (r:Res α) (f:α→Hs→Res β):Res β:=match r with
 | .ok a S=>f a S
 | .exc x S=>.exc x S
 | .bad=>.bad
inductive Rv where
 | val (v:Vl) | frs (o:Ob)
inductive Out where
 | nx (η:Sg) (S:Hs) | ret (r:Rv) (S:Hs) | brk (η:Sg) (S:Hs) | cnt (η:Sg) (S:Hs) | exc (x:Xc) (η:Sg) (S:Hs) | bad
structure bB where
 K:PySem.W.Frag
 cl:Str→Addr
 xl:Str→Addr
 er:Option (Addr × Value × Option Addr)
mutual
def Vl.lim (n:Nat):Vl→Bool
 | .tup xs | .lst xs | .dct _ xs | .obj _ _ xs | .err _ _ xs=>aV n xs
 | .ref r=>r<n
 | _=>true
def aV (n:Nat):List Vl→Bool
 | []=>true
 | x::xs=>Vl.lim n x&&aV n xs
end
section
variable (G:bB) (ρ:List Addr) (H:Hp)
def StL (a:Addr) (vs:List V):Prop:=Rd H a (.lst vs)∧a∉ρ
def StT (a:Addr) (vs:List V):Prop:=(Rd H a (.tup vs)∧a∉ρ)∨(SqT G.K (fun _=>none) a vs)
mutual
def VR:Vl→V→Prop
 | .non,v=>v=.non
 | .bl b,v=>v=.bl b
 | .int i,v=>v=.int i
 | .str s,v=>v=.str s
 | .tup xs,v=>∃ a vs,v=.ref a∧StT G ρ H a vs∧au xs vs
 | .lst xs,v=>∃ a vs,v=.ref a∧StL ρ H a vs∧au xs vs
 | .dct ks xs,v=>∃ a kvs,v=.ref a∧Rd H a (.dK kvs)∧a∉ρ∧kvs.map (·.1)=ks∧au xs (kvs.map (·.2))
 | .obj c ns xs,v=>∃ a dx fs,v=.ref a∧H a=some (.ins (G.cl c) dx fs)∧a∉ρ∧fs.map (·.1)=ns∧au xs (fs.map (·.2))
 | .err c ns xs,v=>∃ a d,v=.ref a∧G.er=some (a,.ref (G.xl c),d)∧((d=none∧xs=[])∨∃ dd fs,d=some dd∧H dd=some (.xd fs)∧dd∉ρ∧fs.map (·.1)=ns∧au xs (fs.map (·.2)))
 | .ref r,v=>∃ a,v=.ref a∧ρ[r]? =some a
def au:List Vl→List V→Prop
 | [],vs=>vs=[]
 | x::xs,vs=>∃ v r,vs=v::r∧VR x v∧au xs r
end
def OR (a:Addr):Ob→Prop
 | .lst xs=>∃ vs,H a=some (.lst vs)∧au G ρ H xs vs
 | .dct ks xs=>∃ kvs,H a=some (.dK kvs)∧kvs.map (·.1)=ks∧au G ρ H xs (kvs.map (·.2))
 | .ins c ns xs=>∃ dx fs,H a=some (.ins (G.cl c) dx fs)∧fs.map (·.1)=ns∧au G ρ H xs (fs.map (·.2))
 | .Ac ks xs=>∃ kvs od,H a=some (.frz od (.dK kvs))∧kvs.map (·.1)=ks∧au G ρ H xs (kvs.map (·.2))
structure bf (S:Hs):Prop where
 len:ρ.length=S.length
 nd:ρ.Nodup
 at_:∀ (r:Nat) (o:Ob) (a:Addr),S[r]? =some o→ρ[r]? =some a→OR G ρ H a o
structure ER (η:Sg) (σ:L2.St):Prop where
 len:η.length=σ.length
 at_:∀ (i:Nat) (x:Vl),η[i]? =some (some x)→∃ v,σ[i]? =some (some v)∧VR G ρ H x v
end
structure Step (ρ:List Addr) (H:Hp) (ρ':List Addr) (H':Hp):Prop where
 pre:ρ<+:ρ'
 keep:∀ a o,H a=some o→a∉ρ→H' a=some o
 new:∀ a,a∈ρ'→a∈ρ∨H a=none
 fz:∀ a od u,H a=some (.frz od u)→H' a=some (.frz od u)
theorem Step.refl (ρ:List Addr) (H:Hp):Step ρ H ρ H:=⟨List.prefix_refl _,fun _ _ h _=>h,fun _ h=>.inl h,fun _ _ _ h=>h⟩
theorem Step.trans {ρ ρ1 ρ2:List Addr} {H H1 H2:Hp} (a:Step ρ H ρ1 H1) (b:Step ρ1 H1 ρ2 H2):Step ρ H ρ2 H2:=by
 refine ⟨a.pre.trans b.pre,fun x o h n=> ?_,fun x h=> ?_,fun x od u h=>b.fz x od u (a.fz x od u h)⟩
 ·have n1:x∉ρ1:=fun q=>(a.new x q).elim n fun z=>by rw [h] at z;cases z
  exact b.keep x o (a.keep x o h n) n1
 ·rcases b.new x h with h | h
  ·exact a.new x h
  ·by_cases n:x∈ρ
   ·exact .inl n
   ·refine .inr ?_
    cases q:H x with
    | none=>rfl
    | some o=>rw [a.keep x o q n] at h;cases h
theorem Step.out {ρ ρ':List Addr} {H H':Hp} (a:Step ρ H ρ' H') {x:Addr} {o:HO} (h:H x=some o) (n:x∉ρ):x∉ρ':=fun q=>(a.new x q).elim n fun z=>by rw [h] at z;cases z
structure jV (ρ:List Addr) (H:Hp) (ρ':List Addr) (H':Hp):Prop where
 pre:ρ<+:ρ'
 keep:∀ a o,H a=some o→a∉ρ→(∀ φ,o≠.ext φ)→H' a=some o
 ext:∀ a φ,H a=some (.ext φ)→a∉ρ→∃ ψ,H' a=some (.ext ψ)
 new:∀ a,a∈ρ'→a∈ρ∨H a=none
 fz:∀ a od u,H a=some (.frz od u)→H' a=some (.frz od u)
theorem Step.x {ρ ρ':List Addr} {H H':Hp} (a:Step ρ H ρ' H'):jV ρ H ρ' H':=⟨a.pre,fun x o h n _=>a.keep x o h n,fun x φ h n=>⟨φ,a.keep x _ h n⟩,a.new,a.fz⟩
theorem jV.trans {ρ ρ1 ρ2:List Addr} {H H1 H2:Hp} (a:jV ρ H ρ1 H1) (b:jV ρ1 H1 ρ2 H2):jV ρ H ρ2 H2:=by
 have there:∀ x o,H x=some o→x∉ρ→∃ u,H1 x=some u:=fun x o h n=>by
  by_cases e:∃ φ,o=.ext φ
  ·obtain ⟨φ,rfl⟩:=e
   obtain ⟨ψ,q⟩:=a.ext x φ h n
   exact ⟨_,q⟩
  ·exact ⟨o,a.keep x o h n fun φ q=>e ⟨φ,q⟩⟩
 have n1:∀ x o,H x=some o→x∉ρ→x∉ρ1:=fun x o h n q=>(a.new x q).elim n fun z=>by rw [h] at z;cases z
 refine ⟨a.pre.trans b.pre,fun x o h n e=>b.keep x o (a.keep x o h n e) (n1 x o h n) e,fun x φ h n=> ?_,fun x h=> ?_,fun x od u h=>b.fz x od u (a.fz x od u h)⟩
 ·obtain ⟨ψ,q⟩:=a.ext x φ h n
  exact b.ext x ψ q (n1 x _ h n)
 ·rcases b.new x h with h | h
  ·exact a.new x h
  ·by_cases n:x∈ρ
   ·exact .inl n
   ·refine .inr ?_
    cases q:H x with
    | none=>rfl
    | some o=>
     obtain ⟨u,hu⟩:=there x o q n
     rw [hu] at h;cases h
theorem jV.out {ρ ρ':List Addr} {H H':Hp} (a:jV ρ H ρ' H') {x:Addr} {o:HO} (h:H x=some o) (n:x∉ρ):x∉ρ':=fun q=>(a.new x q).elim n fun z=>by rw [h] at z;cases z
section
variable {G:bB} {ρ ρ':List Addr} {H H':Hp}
theorem jV.rd (a:jV ρ H ρ' H') {x:Addr} {o:HO} (hx:∀ φ,o≠.ext φ) (h:Rd H x o∧x∉ρ):Rd H' x o∧x∉ρ':=by
 obtain ⟨h,n⟩:=h
 rcases h with h | ⟨ob,h⟩
 ·exact ⟨.inl (a.keep _ _ h n hx),a.out h n⟩
 ·exact ⟨.inr ⟨ob,a.keep _ _ h n (by intro φ q;cases q)⟩,a.out h n⟩
theorem StL.fQ (a:jV ρ H ρ' H') {x:Addr} {vs:List V} (h:StL ρ H x vs):StL ρ' H' x vs:=a.rd (by intro φ q;cases q) h
theorem StT.fQ (a:jV ρ H ρ' H') {x:Addr} {vs:List V} (h:StT G ρ H x vs):StT G ρ' H' x vs:=h.imp (a.rd (by intro φ q;cases q)) id
theorem StL.sq {K:PySem.W.Frag} {x:Addr} {vs:List V} (h:StL ρ H x vs):SqL K H x vs:=.inl h.1
theorem StT.sq {x:Addr} {vs:List V} (h:StT G ρ H x vs):SqT G.K H x vs:=by
 rcases h with ⟨h,_⟩ | h
 ·exact .inl h
 ·rcases h with (h | ⟨_,h⟩) | h
  ·cases h
  ·cases h
  ·exact .inr h
mutual
theorem VR.fQ (a:jV ρ H ρ' H'):∀ (x:Vl) (v:V),VR G ρ H x v→VR G ρ' H' x v
 | .non,_,h | .bl _,_,h | .int _,_,h | .str _,_,h=>by simpa only [VR] using h
 | .tup xs,v,h=>by
  simp only [VR] at h ⊢
  obtain ⟨p,vs,e,h1,h2⟩:=h
  exact ⟨p,vs,e,h1.fQ a,au.fQ a xs vs h2⟩
 | .lst xs,v,h=>by
  simp only [VR] at h ⊢
  obtain ⟨p,vs,e,h1,h2⟩:=h
  exact ⟨p,vs,e,h1.fQ a,au.fQ a xs vs h2⟩
 | .dct ks xs,v,h=>by
  simp only [VR] at h ⊢
  obtain ⟨p,kvs,e,h1,n,h2,h3⟩:=h
  have h4:=a.rd (by intro φ q;cases q) ⟨h1,n⟩
  exact ⟨p,kvs,e,h4.1,h4.2,h2,au.fQ a xs _ h3⟩
 | .obj c ns xs,v,h=>by
  simp only [VR] at h ⊢
  obtain ⟨p,dx,fs,e,h1,n,h2,h3⟩:=h
  exact ⟨p,dx,fs,e,a.keep _ _ h1 n (by intro φ q;cases q),a.out h1 n,h2,au.fQ a xs _ h3⟩
 | .err c ns xs,v,h=>by
  simp only [VR] at h ⊢
  obtain ⟨p,d,e,hg,q⟩:=h
  refine ⟨p,d,e,hg,q.imp id fun ⟨dd,fs,e1,h1,n,h2,h3⟩=>⟨dd,fs,e1,a.keep _ _ h1 n (by intro φ q;cases q),a.out h1 n,h2,au.fQ a xs _ h3⟩⟩
 | .ref r,v,h=>by
  simp only [VR] at h ⊢
  obtain ⟨p,e,h1⟩:=h
  obtain ⟨t,ht⟩:=a.pre
  exact ⟨p,e,by rw [← ht];exact (List.getElem?_append_left (List.getElem?_eq_some_iff.mp h1).1).trans h1⟩
theorem au.fQ (a:jV ρ H ρ' H'):∀ (xs:List Vl) (vs:List V),au G ρ H xs vs→au G ρ' H' xs vs
 | [],_,h=>by simpa only [au] using h
 | x::xs,vs,h=>by
  simp only [au] at h ⊢
  obtain ⟨v,r,e,h1,h2⟩:=h
  exact ⟨v,r,e,VR.fQ a x v h1,au.fQ a xs r h2⟩
end
theorem StL.step (a:Step ρ H ρ' H') {x:Addr} {vs:List V} (h:StL ρ H x vs):StL ρ' H' x vs:=h.fQ a.x
theorem StT.step (a:Step ρ H ρ' H') {x:Addr} {vs:List V} (h:StT G ρ H x vs):StT G ρ' H' x vs:=h.fQ a.x
theorem Step.rd (a:Step ρ H ρ' H') {x:Addr} {o:HO} (h:Rd H x o∧x∉ρ):Rd H' x o∧x∉ρ':=by
 obtain ⟨h,n⟩:=h
 rcases h with h | ⟨ob,h⟩
 ·exact ⟨.inl (a.keep _ _ h n),a.out h n⟩
 ·exact ⟨.inr ⟨ob,a.keep _ _ h n⟩,a.out h n⟩
theorem VR.step (a:Step ρ H ρ' H') (x:Vl) (v:V) (h:VR G ρ H x v):VR G ρ' H' x v:=VR.fQ a.x x v h
theorem au.step (a:Step ρ H ρ' H') (xs:List Vl) (vs:List V) (h:au G ρ H xs vs):au G ρ' H' xs vs:=au.fQ a.x xs vs h
theorem ER.fQ (a:jV ρ H ρ' H') {η:Sg} {σ:L2.St} (h:ER G ρ H η σ):ER G ρ' H' η σ:=⟨h.len,fun i x e=>let ⟨v,h1,h2⟩:=h.at_ i x e;⟨v,h1,h2.fQ a⟩⟩
theorem ER.step (a:Step ρ H ρ' H') {η:Sg} {σ:L2.St} (h:ER G ρ H η σ):ER G ρ' H' η σ:=h.fQ a.x
theorem au.length:∀ {xs:List Vl} {vs:List V},au G ρ H xs vs→xs.length=vs.length
 | [],_,h=>by simp only [au] at h;subst h;rfl
 | x::xs,vs,h=>by
  simp only [au] at h
  obtain ⟨v,r,rfl,h1,h2⟩:=h
  simp [au.length h2]
theorem au.get:∀ {xs:List Vl} {vs:List V} {i:Nat} {x:Vl},au G ρ H xs vs→xs[i]? =some x→∃ v,vs[i]? =some v∧VR G ρ H x v
 | [],_,_,_,_,e=>by simp at e
 | y::xs,vs,0,x,h,e=>by
  simp only [au] at h
  obtain ⟨v,r,rfl,h1,h2⟩:=h
  simp at e;subst e
  exact ⟨v,by simp,h1⟩
 | y::xs,vs,i+1,x,h,e=>by
  simp only [au] at h
  obtain ⟨v,r,rfl,h1,h2⟩:=h
  obtain ⟨w,e1,e2⟩:=au.get (i:=i) h2 (by simpa using e)
  exact ⟨w,by simpa using e1,e2⟩
theorem au.append:∀ {xs ys:List Vl} {vs ws:List V},au G ρ H xs vs→au G ρ H ys ws→au G ρ H (xs++ys) (vs++ws)
 | [],ys,vs,ws,h,k=>by simp only [au] at h;subst h;exact k
 | x::xs,ys,vs,ws,h,k=>by
  simp only [au] at h
  obtain ⟨v,r,rfl,h1,h2⟩:=h
  show au G ρ H (x::(xs++ys)) (v::(r++ws))
  simp only [au]
  exact ⟨v,_,rfl,h1,au.append h2 k⟩
theorem au.nil:au G ρ H [] []:=by simp only [au]
theorem au.cons {x:Vl} {xs:List Vl} {v:V} {vs:List V} (h:VR G ρ H x v) (k:au G ρ H xs vs):au G ρ H (x::xs) (v::vs):=by simp only [au];exact ⟨v,vs,rfl,h,k⟩
theorem au.of_get:∀ {xs:List Vl} {vs:List V},xs.length=vs.length→(∀ (i:Nat) (x:Vl) (v:V),xs[i]? =some x→vs[i]? =some v→VR G ρ H x v)→au G ρ H xs vs
 | [],[],_,_=>au.nil
 | [],_::_,h,_=>by simp at h
 | _::_,[],h,_=>by simp at h
 | x::xs,v::vs,h,k=>au.cons (k 0 x v rfl rfl) (au.of_get (by simpa using h) fun i y w e1 e2=>k (i+1) y w (by simpa using e1) (by simpa using e2))
theorem au.take (n:Nat) {xs:List Vl} {vs:List V} (h:au G ρ H xs vs):au G ρ H (xs.take n) (vs.take n):=au.of_get (by simp [h.length]) fun i x v e1 e2=>by
 rw [List.getElem?_take] at e1 e2
 split at e1
 ·rename_i c
  rw [if_pos c] at e2
  obtain ⟨w,e3,e4⟩:=h.get e1
  rw [e2] at e3;cases e3
  exact e4
 ·cases e1
theorem au.drop (n:Nat) {xs:List Vl} {vs:List V} (h:au G ρ H xs vs):au G ρ H (xs.drop n) (vs.drop n):=au.of_get (by simp [h.length]) fun i x v e1 e2=>by
 rw [List.getElem?_drop] at e1 e2
 obtain ⟨w,e3,e4⟩:=h.get e1
 rw [e2] at e3;cases e3
 exact e4
end
end Oz
namespace Oz
open PySem L2
mutual
inductive Tg where
 | nm (i:Nat) | tp (ts:Wg)
inductive Wg where
 | nil | cons (t:Tg) (ts:Wg)
end
inductive B1 where
 | len | all | any | tuple | repr | str | int | sum | max
inductive Tm where
 | join | index | count | part
inductive Mm where
 | append | pop | QW | clear | extend | insert
inductive ZR where
 | nm (i:Nat) | fl (i:Nat) (f:Str)
inductive Dk where
 | keys | items
mutual
inductive E where
 | var (i:Nat) | cst (v:Vl)
 | bin (op:Operator) (a b:E) | cmp (op:CmpOp) (a b:E) | Rq (p q:CmpOp) (a b c:E)
 | band (a b:E) | bor (a b:E) | pY (a:E) | tru (a:E) | neg (a:E)
 | ite (t a b:E)
 | tup (es:Es)
 | idx (a i:E) | Cz (a:E) (lo hi:Oe)
 | kin (g:Str) (ng:Bool) (a:E) | amc (g:Str) (a:E)
 | b1 (f:B1) (a:E)
 | isD (a:E) | isL (a:E) | af3 (a:E) | isC (c:Str) (a:E)
 | call (q:Str) (es:Es) | Zi (c m:Str) (a:E) (es:Es)
 | fld (a:E) (f:Str)
 | tm (m:Tm) (a b:E)
 | mut (m:Mm) (a:E) (es:Es)
 | agR (c:Str) (a:E) | oeq (c:Str) (ng:Bool) (a b:E)
 | inl (f:F) | CG (f:F) | bad
 | fs (es:Es) | K7 (c:Str) (a:E) | mn (a b:E)
 | orv (a b:E) | amb (c:Str) (a b:E) | leq (c:Str) (a b:E) | mx (a b:E) | xP (c:Str) (a:E) | xf (a:E) (f:Str) | abu (a b:E) | ab3 (a b:E) | ext (a b:E)
 | lset (a:E) | aiX (a:E) | alh (own:List Nat) (iJ:E) (t:Tg) (s:Src) (jZ:Es) | dgt (a k d:E) | akJ (a k:E)
 | lsc (own:List Nat) (iJ:E) (t:Tg) (s:Src) (jZ:Es) | mxd (a d:E) | alY (c:Str) (es:Es) | akZ (a:E) | aii (own:List Nat) (iJ:E) (t:Tg) (s:Src) (jZ:Es) | agq (own:List Nat) (iJ:E) (t:Tg) (k:Dk) (p:ZR) (jZ:Es) | Wy (a:E) (y z:Str) | replL (a:E) (y z0 z1 z2 z3:Str) (i:E)
inductive F where
 | lst (es:Es) | cat (a b:E) | rep (a b:E) | slc (a:E) (lo hi:Oe) | cpy (a:E) | srt (a:E)
 | comp (own:List Nat) (iJ:E) (t:Tg) (s:Src) (jZ:Es)
 | WL (own:List Nat) (iJ:E) (t:Tg) (s:Src)
 | call (q:Str) (es:Es) | Zi (c m:Str) (a:E) (es:Es)
 | dsp (ks:List Str) (vs:Es) | new (c:Str) (es:Es)
 | split (a b:E) | akO (a:E) | ahk (own:List Nat) (iJ:E) (t:Tg) (s:Src) (jZ:Es) (Rm:List Nat) (t1:Tg) (s1:Src) (Sy:Es) | bad
 | xR (ks:List Key) (vs:Es) | ald (es:Es) | Ku (own:List Nat) (ke ve:E) (t:Tg) (s:Src) (jZ:Es) | yH (own:List Nat) (iJ:E) (t:Tg) (i:Nat) (jZ:Es)
 | YG (a:E) | XR (a:E) | alF (a:E) | itl (a:E) | vll (a:E) | kyl (a:E) | dcp (a:E) | rev (a:E)
 | ajb (own:List Nat) (iJ:E) (t:Tg) (s:Src) (jZ:Es) (Rm:List Nat) (t1:Tg) (s1:Src) (Sy:Es)
 | aiV (own:List Nat) (iJ:E) (t:Tg) (k:Dk) (p:ZR) (jZ:Es) | agf (own:List Nat) (ke ve:E) (t:Tg) (k:Dk) (p:ZR) (jZ:Es)
inductive Src where
 | sq (e:E) | xY (e:E) | alG (a b:E) | Y6 (e:E) (st:Int) | zip (a b:E) | chars (e:E) | items (e:E)
inductive Es where
 | nil | cons (e:E) (es:Es)
inductive Oe where
 | none | some (e:E)
end
mutual
inductive C where
 | asg (t:Tg) (e:E) | star (is:List Nat) (i:Nat) (e:E) | par (i j:Nat) (a b:E)
 | fset (a:E) (f:Str) (e:E) | uH (o i e:E) | Vc (o1 i1 o2 i2 e:E) | ain (a1:E) (f1:Str) (a2:E) (f2:Str) (e:E) | aj8 (i:Nat) (t:Tg) (e:E)
 | aug (i:Nat) (op:Operator) (e:E)
 | ex (e:E) | ret (e:E) | Y0 (f:F) | ak1
 | ite (t:E) (a b:Cs)
 | for_ (t:Tg) (s:Src) (b:Cs) | whl (t:E) (b:Cs) | ama (t:Tg) (k:Dk) (p:ZR) (b:Cs)
 | raise (c:Str) (es:Es) | try_ (b:Cs) (c:Str) (i:Nat) (h:Cs) | akI (b:Cs) (c1 c2:Str) (i:Nat) (h:Cs) | akH (b:Cs) (c1 c2 c3:Str) (i:Nat) (h:Cs) | fin (b h:Cs) | TY (b:Cs) (l:List Str) (h:Cs)
 | pass | brk | cnt | bad
inductive Cs where
 | nil | cons (c:C) (cs:Cs)
end
structure aF where
 cal:Str→List Vl→Hs→Res Rv
 kd:Str→Option (List (Str × Vl))
 fuel:Nat
 sub:Str→Str→Option Bool
 xi:Str→Option (Option Str)
mutual
def Vl.dN (f:Nat→Vl):Vl→Vl
 | .tup xs=>.tup (jn f xs)
 | .lst xs=>.lst (jn f xs)
 | .dct ks xs=>.dct ks (jn f xs)
 | .obj c ns xs=>.obj c ns (jn f xs)
 | .err c ns xs=>.err c ns (jn f xs)
 | .ref r=>f r
 | .non=>.non | .bl b=>.bl b | .int i=>.int i | .str s=>.str s
def jn (f:Nat→Vl):List Vl→List Vl
 | []=>[]
 | x::xs=>Vl.dN f x::jn f xs
end
def rF:Nat→Hs→Vl→Vl
 | 0,_,v=>v.dN .ref
 | k+1,S,v=>v.dN fun r=>match S[r]? with
  | some o=>rF k S o.inl
  | none=>.ref r
mutual
def Vl.toD:Vl→Option PyData
 | .non=>some .none
 | .bl b=>some (.bool b)
 | .int i=>some (.int i)
 | .str s=>some (.str s)
 | .tup xs=>(uU xs).map .tuple
 | .lst xs=>(uU xs).map .list
 | _=>none
def uU:List Vl→Option (List PyData)
 | []=>some []
 | x::xs=>match Vl.toD x,uU xs with
  | some d,some ds=>some (d::ds)
  | _,_=>none
end
def aiR:Nat:=4
def dataOf (S:Hs) (v:Vl):Option PyData:=(rF aiR S v).toD
def cV (S:Hs):Vl→Option (List Vl)
 | .tup xs=>some xs
 | .lst xs=>some xs
 | .ref r=>match S[r]? with
  | some (.lst xs)=>some xs
  | _=>none
 | _=>none
def bV (S:Hs):Vl→Option (List Vl)
 | .lst xs=>some xs
 | .ref r=>match S[r]? with
  | some (.lst xs)=>some xs
  | _=>none
 | _=>none
def pZ (S:Hs):Vl→Option Nat
 | .ref r=>match S[r]? with
  | some (.lst _)=>some r
  | _=>none
 | _=>none
def aX (S:Hs):Vl→Option (List Key × List Vl)
 | .dct ks xs=>some (ks,xs)
 | .ref r=>match S[r]? with
  | some (.dct ks xs)=>some (ks,xs)
  | some (.Ac ks xs)=>some (ks,xs)
  | _=>none
 | _=>none
def lJ (S:Hs):Vl→Option (Str × List Str × List Vl)
 | .obj c ns xs=>some (c,ns,xs)
 | .ref r=>match S[r]? with
  | some (.ins c ns xs)=>some (c,ns,xs)
  | _=>none
 | _=>none
def Vl.key:Vl→Option Key
 | .int i=>some (.inl i)
 | .str s=>some (.inr s)
 | _=>none
def cD {κ:Type} [DecidableEq κ]:List κ→List Vl→κ→Option Vl
 | k::ks,v::vs,x=>if k=x then some v else cD ks vs x
 | _,_,_=>none
def Ez {κ:Type} [DecidableEq κ]:List κ→List Vl→κ→Vl→List κ × List Vl
 | k::ks,v::vs,x,y=>if k=x then (k::ks,y::vs) else let r:=Ez ks vs x y;(k::r.1,v::r.2)
 | _,_,x,y=>([x],[y])
def Vl.flat:Vl→Bool
 | .non | .bl _ | .int _ | .str _=>true
 | _=>false
def eqF:Vl→Vl→Bool
 | .non,.non=>true
 | .bl a,.bl b=>a==b
 | .bl a,.int b=>(if a then 1 else 0)==b
 | .int a,.bl b=>a==(if b then 1 else 0)
 | .int a,.int b=>a==b
 | .str a,.str b=>a==b
 | _,_=>false
def Vl.isNon:Vl→Bool
 | .non=>true
 | _=>false
def Wx (i j:Int):Bool:=(-(2 ^ 64)<i&&i<2 ^ 64) || (-(2 ^ 64)<j&&j<2 ^ 64)
def binop (op:Operator) (x y:Vl):Option Vl:=match op,x,y with
 | .Add,.int i,.int j=>some (.int (i+j))
 | .Add,.str i,.str j=>if i.length+j.length≤sizeLine then some (.str (i++j)) else none
 | .Add,.tup xs,.tup ys=>if xs.length+ys.length≤sizeLine then some (.tup (xs++ys)) else none
 | .Sub,.int i,.int j=>some (.int (i - j))
 | .Mult,.int i,.int j=>if Wx i j then some (.int (i* j)) else none
 | .Mult,.tup xs,.int n=>if xs≠[]∧0≤n∧n≤1000∧xs.length≤1000 then some (.tup (List.replicate n.toNat xs).flatten) else none
 | .FloorDiv,.int i,.int j=>if 0<j∧j<1073741824 then some (.int (i / j)) else none
 | .Mod,.int i,.int j=>if 0<j then some (.int (i%j)) else none
 | .Pow,.int i,.int j=>if 0≤j∧j≤1000000∧i.natAbs<2 ^ 64 then some (.int (i ^ j.toNat)) else none
 | _,_,_=>none
def Zq (S:Hs) (x y:Vl):Option Bool:=match bV S x,bV S y with
 | some xs,some ys=>if xs.length=ys.length then none else some false
 | _,_=>none
def oW (S:Hs) (x y:Vl):Option Bool:=match dataOf S x,dataOf S y with
 | some d,some e=>if SeqAt.shaped d∧SeqAt.shaped e then some (PyData.eqv d e) else none
 | _,_=>Zq S x y
def YX:Vl→Vl→Option Bool
 | .int i,.int j=>some (decide (i=j))
 | .bl i,.bl j=>some (decide (i=j))
 | .str i,.str j=>some (decide (i=j))
 | _,_=>none
def hitsD (S:Hs):List Key→List Vl→List Key→List Vl→Option Bool
 | k::ks,v::vs,zP,vs'=>match cD zP vs' k with
  | none=>some false
  | some w=>match YX v w with
   | some e=>(hitsD S ks vs zP vs').map fun b=>e&&b
   | none=>none
 | _,_,_,_=>some true
def vO (S:Hs) (x y:Vl):Option Bool:=match aX S x,aX S y with
 | some (ks,vs),some (zP,vs')=>if ks.length=zP.length then hitsD S ks vs zP vs' else some false
 | _,_=>none
def Vs (S:Hs) (x y:Vl):Option Bool:=match aX S x,aX S y with
 | some (ks,_),some ([],_)=>some (!ks.isEmpty)
 | _,_=>none
def zq (S:Hs) (x y:Vl):Option Bool:=match YX x y with
 | some b=>some b
 | none=>match vO S x y with
  | some b=>some b
  | none=>oW S x y
def lX (S:Hs) (x y:Vl):Option Bool:=match y with
 | .str z=>match x with
  | .str w=>if w.length=1 then some (decide (w.cps.getD 0 0∈z.cps.toList)) else none
  | _=>none
 | _=>match aX S y with
  | some (ks,_)=>x.key.map fun k=>ks.any fun j=>decide (j=k)
  | none=>match cV S y with
   | some ys=>if x.flat&&ys.all Vl.flat then some (ys.any fun z=>eqF z x) else match dataOf S x,dataOf S y with
    | some d,some (.list ds)=>if SeqAt.shaped d=true∧SeqAt.shaped (.list ds)=true then some (ds.any fun z=>PyData.eqv z d) else none
    | _,_=>none
   | none=>none
def cmpop (op:CmpOp) (S:Hs) (x y:Vl):Option Bool:=match op with
 | .Eq=>zq S x y
 | .NotEq=>if (vO S x y).isSome then Vs S x y else (zq S x y).map not
 | .Lt=>match x,y with
  | .int i,.int j=>some (decide (i<j))
  | _,_=>none
 | .LtE=>match x,y with
  | .int i,.int j=>some (decide (i≤j))
  | _,_=>none
 | .Gt=>match x,y with
  | .int i,.int j=>some (decide (j<i))
  | _,_=>none
 | .GtE=>match x,y with
  | .int i,.int j=>some (decide (j≤i))
  | _,_=>none
 | .Is=>match y with
  | .non=>some x.isNon
  | .bl b=>match x with
   | .bl a=>some (decide (a=b))
   | _=>none
  | _=>none
 | .IsNot=>match y with
  | .non=>some (!x.isNon)
  | .bl b=>match x with
   | .bl a=>some (!decide (a=b))
   | _=>none
  | _=>none
 | .In=>lX S x y
 | .NotIn=>(lX S x y).map not
def af1:Vl→Option Bool
 | .bl b=>some b
 | _=>none
def truth (S:Hs) (x:Vl):Option Bool:=match x with
 | .non=>some false
 | .bl b=>some b
 | .int i=>some (i !=0)
 | .str y=>if y.length≤sizeLine then some ((y.length:Int) !=0) else none
 | _=>match cV S x with
  | some ys=>some (!ys.isEmpty)
  | none=>none
def allB:List Vl→Option (List Bool)
 | []=>some []
 | x::xs=>match af1 x,allB xs with
  | some b,some bs=>some (b::bs)
  | _,_=>none
def Cr:List Vl→Option (List Int)
 | []=>some []
 | .int i::xs=>(Cr xs).map (i::·)
 | _=>none
def uC:List Vl→Option (List Str)
 | []=>some []
 | .str i::xs=>(uC xs).map (i::·)
 | _=>none
def QJ:List Int→Option Int
 | []=>none
 | x::xs=>match QJ xs with
  | none=>some x
  | some m=>some (if x≤m then m else x)
def ir (f:B1) (S:Hs) (x:Vl):Option Vl:=match f with
 | .len=>match x with
  | .str z=>if z.length≤sizeLine then some (.int z.length) else none
  | _=>match aX S x with
   | some (ks,_)=>some (.int ks.length)
   | none=>(cV S x).map fun ys=>.int ys.length
 | .all=>((bV S x).bind allB).map fun bs=>.bl (bs.all id)
 | .any=>((bV S x).bind allB).map fun bs=>.bl (bs.any id)
 | .tuple=>(cV S x).map .tup
 | .repr=>match dataOf S x with
  | some d=>if d.showable=true∧d.shown.length≤sizeLine∧d.canLay0=true∧d.depth≤60 then some (.str d.shown) else none
  | none=>none
 | .str=>match x with
  | .int i=>if i.natAbs.log2<1920 then some (.str (toString i)) else none
  | .str z=>some (.str z)
  | _=>none
 | .int=>match x with
  | .bl b=>some (.int (if b then 1 else 0))
  | .int i=>some (.int i)
  | .str z=>if z.length≤640 then (PySem.intText? z).map .int else none
  | _=>none
 | .sum=>((bV S x).bind Cr).map fun ns=>.int ns.sum
 | .max=>((bV S x).bind Cr).bind fun ns=>(QJ ns).map .int
def dM (S:Hs) (x i:Vl):Option Vl:=match x,i with
 | .str z,.int i=>if z.length≤sizeLine then (atI z.cps.toList i).map fun c=>.str ⟨#[c]⟩ else none
 | x,i=>match aX S x with
  | some (ks,vs)=>i.key.bind fun k=>cD ks vs k
  | none=>match cV S x,i with
   | some ys,.int i=>atI ys i
   | _,_=>none
def tH {α:Type} (xs:List α) (lo hi:Option Int):List α:=(xs.drop (HT.sIx xs.length 0 lo)).take (HT.sIx xs.length xs.length hi - HT.sIx xs.length 0 lo)
def Dy (x:Vl) (lo hi:Option Int):Option Vl:=match x with
 | .str z=>if z.length≤sizeLine then some (.str (cutS z lo hi)) else none
 | .tup xs=>some (.tup (tH xs lo hi))
 | _=>none
def KJ (m:Mm) (xs:List Vl) (es:List Vl):Option (Vl × List Vl):=match m,es with
 | .append,[y]=>if xs.length<sizeLine then some (.non,xs++[y]) else none
 | .pop,[]=>match xs[xs.length - 1]? with
  | some y=>some (y,xs.dropLast)
  | none=>none
 | .QW,[.int i]=>if -(2 ^ 63)≤i∧i<2 ^ 63 then (seqIndex? i xs.length).bind fun k=>xs[k]?.map fun y=>(y,xs.eraseIdx k) else none
 | .clear,[]=>some (.non,[])
 | .insert,[.int i,y]=>if xs.length<sizeLine∧0≤i∧i<2 ^ 63 then some (.non,xs.take i.toNat++[y]++xs.drop i.toNat) else none
 | _,_=>none
def zu (m:Tm) (S:Hs) (z:Str) (y:Vl):Option Vl:=match m with
 | .join=>match (cV S y).bind uC with
  | some ys=>if (ys.map (·.length)).sum+ys.length* z.length≤16777216 then some (.str (Txt.join z ys)) else none
  | none=>none
 | .index=>match y with
  | .str w=>(Txt.index0 z w).map fun k=>.int (k:Nat)
  | _=>none
 | .part=>match y with
  | .str w=>if w.length≠0∧z.length≤sizeLine then some (.tup [.str (Txt.partition z w).1,.str (Txt.partition z w).2.1,.str (Txt.partition z w).2.2]) else none
  | _=>none
 | _=>none
def QR (S:Hs) (x y:Vl):Option Vl:=match dataOf S x,dataOf S y with
 | some (.list ds),some d=>if SeqAt.shaped (.list ds)=true∧SeqAt.shaped d=true then some (.int (ds.countP fun z=>PyData.eqv z d:Nat)) else none
 | _,_=>none
def yU (S:Hs) (x y:Vl):Option Vl:=match dataOf S x,dataOf S y with
 | some (.list ds),some d=>if SeqAt.shaped (.list ds)=true∧SeqAt.shaped d=true then (ds.findIdx? fun z=>PyData.eqv z d).map fun j=>.int (j:Nat) else none
 | _,_=>none
mutual
def Vl.ef:Vl→Bool
 | .tup xs | .lst xs | .dct _ xs | .obj _ _ xs=>Zh xs
 | .err _ _ _=>false
 | _=>true
def Zh:List Vl→Bool
 | []=>true
 | x::xs=>Vl.ef x&&Zh xs
end
def Ob.ef:Ob→Bool
 | .lst xs | .dct _ xs | .ins _ _ xs | .Ac _ xs=>Zh xs
def Uy (S:Hs):Bool:=S.all Ob.ef
def Y7 (η:Sg):Bool:=η.all fun x=>match x with
 | some v=>v.ef
 | none=>true
def Rv.ef:Rv→Bool
 | .val v=>v.ef
 | .frs o=>o.ef
def Xc.vl (x:Xc):Vl:=match x.fs with
 | none=>.err x.c [] []
 | some (ns,vs)=>.err x.c ns vs
def Le (a b:Str):Bool:=decide (a.cps.toList<b.cps.toList)
def rN (x:Str):List Str→List Str
 | []=>[x]
 | y::ys=>if Le y x then y::rN x ys else x::y::ys
def dO:List Str→List Str
 | []=>[]
 | x::xs=>rN x (dO xs)
def insI (x:Int):List Int→List Int
 | []=>[x]
 | y::ys=>if y<x then y::insI x ys else x::y::ys
def sortI:List Int→List Int
 | []=>[]
 | x::xs=>insI x (sortI xs)
def ajs (S:Hs) (x:Vl):Option (List Vl):=match (bV S x).bind uC with
 | some zs=>if zs.length≤100000 then some ((dO zs).map .str) else none
 | none=>match (bV S x).bind Cr with
  | some ns=>some ((sortI ns).map .int)
  | none=>none
def Vl.af3:Vl→Bool
 | .tup _=>true
 | _=>false
def O6:List Key→Option (List Str)
 | []=>some []
 | .inr z::ks=>(O6 ks).map (z::·)
 | .inl _::_=>none
def Jp:List Key→Option (List Int)
 | []=>some []
 | .inl z::ks=>(Jp ks).map (z::·)
 | .inr _::_=>none
def Et (S:Hs) (x:Vl):Option (List Vl):=match aX S x with
 | some (ks,_)=>match O6 ks with
  | some zs=>if zs.length≤100000 then some ((dO zs).map .str) else none
  | none=>match Jp ks with
   | some ns=>if ns.length≤100000 then some ((sortI ns).map .int) else none
   | none=>none
 | none=>none
def U8:List Vl→Option (List (Str × Vl))
 | []=>some []
 | .tup [.str z,y]::xs=>(U8 xs).map ((z,y)::·)
 | _=>none
def acO (x:Str × Vl):List (Str × Vl)→List (Str × Vl)
 | []=>[x]
 | y::ys=>if Le y.1 x.1 then y::acO x ys else x::y::ys
def Rf:List (Str × Vl)→List (Str × Vl)
 | []=>[]
 | x::xs=>acO x (Rf xs)
def prV (p:Str × Vl):Vl:=.tup [.str p.1,p.2]
def Ak (S:Hs) (x:Vl):Option (List Vl):=match (cV S x).bind U8 with
 | some zs=>if zs.length<64∧(zs.map (·.1)).Nodup then some ((Rf zs).map prV) else none
 | none=>none
def mU (k:Key) (y:Vl):List Key→List Vl→List Vl
 | j::ks,v::vs=>(if j=k then y else v)::mU k y ks vs
 | _,_=>[]
def putD (ks:List Key) (vs:List Vl) (k:Key) (y:Vl):List Key × List Vl:=if (ks.any fun j=>decide (j=k))=true then (ks,mU k y ks vs) else (ks++[k],vs++[y])
def j5:List (Key × Vl)→List Key→List Vl→List Key × List Vl
 | [],ks,vs=>(ks,vs)
 | p::ps,ks,vs=>j5 ps (putD ks vs p.1 p.2).1 (putD ks vs p.1 p.2).2
def aeU:List Vl→Option (List (Key × Vl))
 | []=>some []
 | k::v::r=>match k.key with
  | some kk=>(aeU r).map ((kk,v)::·)
  | none=>none
 | _=>none
def afj:List Vl→Option (List (Key × Vl))
 | []=>some []
 | .tup [x,y]::xs=>match x.key with
  | some k=>(afj xs).map ((k,y)::·)
  | none=>none
 | _=>none
def ag8 (S:Hs) (x:Vl):Option Ob:=match (bV S x).bind afj with
 | some ps=>let q:=j5 ps [] [];some (.dct q.1 q.2)
 | none=>none
def delD (k:Key):List Key→List Vl→List Key × List Vl
 | j::ks,v::vs=>if j=k then delD k ks vs else (j::(delD k ks vs).1,v::(delD k ks vs).2)
 | _,_=>([],[])
def sU (S:Hs) (x k y:Vl):Option Hs:=match x with
 | .ref r=>match S[r]? with
  | some (.dct ks vs)=>match k.key with
   | some k=>if ks.length<sizeLine then let q:=putD ks vs k y;some (S.set r (.dct q.1 q.2)) else none
   | none=>none
  | some (.lst xs)=>match k with
   | .int i=>match ixN xs.length i with
    | some j=>some (S.set r (.lst (xs.set j y)))
    | none=>none
   | _=>none
  | _=>none
 | _=>none
def Am:Vl→Option Str
 | .str y=>if y.length≤sizeLine then some y else none
 | .int i=>if i.natAbs.log2<1920 then some (toString i) else none
 | _=>none
def rB:List Vl→Str→Option Str
 | [],aQ=>some aQ
 | x::xs,aQ=>match Am x with
  | some y=>if (aQ++y).length≤sizeLine then rB xs (aQ++y) else none
  | none=>none
mutual
def aZ:Tg→Vl→Sg→Option Sg
 | .nm i,x,η=>some (η.set i (some x))
 | .tp ts,x,η=>match x with
  | .tup xs=>lV ts xs η
  | .lst xs=>lV ts xs η
  | _=>none
def lV:Wg→List Vl→Sg→Option Sg
 | .nil,[],η=>some η
 | .cons t ts,x::xs,η=>match aZ t x η with
  | some η1=>lV ts xs η1
  | none=>none
 | _,_,_=>none
end
def ab2:List Nat→List Vl→Sg→Option (Sg × List Vl)
 | [],xs,η=>some (η,xs)
 | i::is,x::xs,η=>ab2 is xs (η.set i (some x))
 | _::_,[],_=>none
def bR (η:Sg):List Nat→Sg
 | []=>η
 | v::vs=>(bR η vs).set v none
def gY {α:Type} (S:Hs):Option α→Res α
 | some a=>.ok a S
 | none=>.bad
abbrev Lk:=Nat × Ob
def cP (lk:List Lk) (S:Hs):Prop:=∀ p∈lk,S[p.1]? =some p.2
open Classical in
noncomputable def gJ (step:Vl→Hs→Res (Option Vl)) (lk:List Lk):List Vl→List Vl→Hs→Res (List Vl)
 | [],aQ,S=>if cP lk S then .ok aQ S else .bad
 | x::xs,aQ,S=>if cP lk S then match step x (S++[.lst aQ]) with
   | .ok o T=>if T=S++[.lst aQ]∧aQ.length<sizeLine then match o with
    | some y=>if y.lim S.length then gJ step lk xs (aQ++[y]) S else .bad
    | none=>gJ step lk xs aQ S
    else .bad
   | _=>.bad
  else .bad
open Classical in
noncomputable def alH (k:Nat) (S T:Hs) (o:Option Vl):Option Hs:=match T[k]? with
 | some (.lst aQ)=>if S[k]? =some (.lst aQ)∧aQ.length<sizeLine then some (match o with
  | some y=>T.set k (.lst (aQ++[y]))
  | none=>T) else none
 | _=>none
open Classical in
noncomputable def Sd (step:Vl→Hs→Res (Option Vl)) (lk:List Lk) (k:Nat):List Vl→Hs→Res Unit
 | [],S=>if cP lk S then .ok () S else .bad
 | x::xs,S=>if cP lk S then match step x S with
   | .ok o T=>match alH k S T o with
    | some U=>Sd step lk k xs U
    | none=>.bad
   | _=>.bad
  else .bad
def Xc.lim (n:Nat) (x:Xc):Bool:=match x.fs with
 | none=>true
 | some (_,vs)=>aV n vs
open Classical in
noncomputable def m7 (step:Vl→Hs→Res (Option Vl)) (lk:List Lk):List Vl→List Vl→Hs→Res (List Vl)
 | [],aQ,S=>if cP lk S then .ok aQ S else .bad
 | x::xs,aQ,S=>if cP lk S then match step x (S++[.lst aQ]) with
   | .ok o T=>if T=S++[.lst aQ]∧aQ.length<sizeLine then match o with
    | some y=>if y.lim S.length then m7 step lk xs (aQ++[y]) S else .bad
    | none=>m7 step lk xs aQ S
    else .bad
   | .exc z T=>if T=S++[.lst aQ]∧z.lim S.length=true then .exc z S else .bad
   | .bad=>.bad
  else .bad
open Classical in
noncomputable def tM (step:Vl→Hs→Res (Option (Vl × Vl))) (lk:List Lk):List Vl→List Key→List Vl→Hs→Res (List Key × List Vl)
 | [],ks,vs,S=>if cP lk S then .ok (ks,vs) S else .bad
 | x::xs,ks,vs,S=>if cP lk S then match step x (S++[.dct ks vs]) with
   | .ok o T=>if T=S++[.dct ks vs]∧ks.length<sizeLine then match o with
    | some (k,y)=>match k.key with
     | some k=>if y.lim S.length then tM step lk xs (putD ks vs k y).1 (putD ks vs k y).2 S else .bad
     | none=>.bad
    | none=>tM step lk xs ks vs S
    else .bad
   | _=>.bad
  else .bad
open Classical in
noncomputable def RW (start:Vl→Hs→Res (Option (Sg × List Lk × List Vl))) (step:Sg→Vl→Hs→Res (Option Vl)) (lk:List Lk):List Vl→List Vl→Hs→Res (List Vl)
 | [],aQ,S=>if cP lk S then .ok aQ S else .bad
 | x::xs,aQ,S=>if cP lk S then match start x (S++[.lst aQ]) with
   | .ok o T=>if T=S++[.lst aQ] then match o with
    | some q=>(gJ (step q.1) q.2.1 q.2.2 aQ S).bind fun acf _=>RW start step lk xs acf S
    | none=>RW start step lk xs aQ S
    else .bad
   | _=>.bad
  else .bad
open Classical in
noncomputable def Bw {α:Type} (step:Vl→Hs→Res (List α)) (lk:List Lk):List Vl→Hs→Res (List α)
 | [],S=>if cP lk S then .ok [] S else .bad
 | x::xs,S=>if cP lk S then match step x S with
   | .ok ys T=>if T=S then (Bw step lk xs S).bind fun zs S1=>.ok (ys++zs) S1 else .bad
   | _=>.bad
  else .bad
open Classical in
noncomputable def forL (body:Sg→Hs→Out) (t:Tg) (lk:List Lk):List Vl→Sg→Hs→Out
 | [],η,S=>if cP lk S then .nx η S else .bad
 | x::xs,η,S=>if cP lk S then match aZ t x η with
  | none=>.bad
  | some η1=>match body η1 S with
   | .nx η2 S2=>forL body t lk xs η2 S2
   | .cnt η2 S2=>forL body t lk xs η2 S2
   | .brk η2 S2=>.nx η2 S2
   | o=>o
  else .bad
def Ew (test:Sg→Hs→Res Vl) (body:Sg→Hs→Out):Nat→Sg→Hs→Out
 | 0,_,_=>.bad
 | n+1,η,S=>match test η S with
  | .ok (.bl true) S1=>match body η S1 with
   | .nx η2 S2=>Ew test body n η2 S2
   | .cnt η2 S2=>Ew test body n η2 S2
   | .brk η2 S2=>.nx η2 S2
   | o=>o
  | .ok (.bl false) S1=>.nx η S1
  | .exc x S1=>.exc x η S1
  | _=>.bad
def iH:Int→List Vl→List Vl
 | _,[]=>[]
 | i,x::xs=>.tup [.int i,x]::iH (i+1) xs
def Cm:List Vl→List Vl→List Vl
 | x::xs,y::ys=>.tup [x,y]::Cm xs ys
 | _,_=>[]
def jg (lo:Int):Nat→List Vl
 | 0=>[]
 | n+1=>.int lo::jg (lo+1) n
def bQ:List Key→List Vl→List Vl
 | k::ks,v::vs=>.tup [match k with | .inl i=>.int i | .inr s=>.str s,v]::bQ ks vs
 | _,_=>[]
def lZ (S:Hs):Vl→Option (List Lk × List Vl)
 | .tup xs=>some ([],xs)
 | .lst xs=>some ([],xs)
 | .ref r=>match S[r]? with
  | some (.lst xs)=>some ([(r,.lst xs)],xs)
  | _=>none
 | _=>none
def iI (z:Str):List Vl:=z.cps.toList.map fun c=>.str ⟨#[c]⟩
def Rv.v:Rv→Vl
 | .val v=>v
 | .frs o=>o.inl
def aeZ (S:Hs):Vl→Option (List Lk × List Vl)
 | .str z=>some ([],iI z)
 | x=>lZ S x
def stepI (l:List Int) (k:Int):List Int:=if k∈l then l else l++[k]
def aiw (ns:List Int):List Int:=ns.foldl stepI []
def Ae:List Str→List Str
 | []=>[]
 | x::xs=>if x∈xs then Ae xs else x::Ae xs
variable (M:aF)
def qj (q:Str) (xs:List Vl) (S:Hs):Res Vl:=(M.cal q xs S).bind fun r S1=>.ok r.v S1
def dot (c m:Str):Str:=c++⟨#[46]⟩++m
def lF (S:Hs) (x:Vl) (c m:Str):Bool:=match lJ S x with
 | some (d,ns,_)=>decide (d=c)&& !(ns.contains m)
 | none=>false
def eqY (S:Hs) (c:Str) (y:Vl):Bool:=match lJ S y with
 | some (d,_,_)=>decide (d=c)
 | none=>match y with
  | .str _=>true
  | .tup _=>true
  | _=>(bV S y).isSome
def alm (c:Str) (S:Hs) (us ws:List Vl):Prop:=us.length=ws.length∧∀ (i:Nat) (u w:Vl),us[i]? =some u→ws[i]? =some w→lF S u c "__eq__"=true∧lF S w c "__eq__"=true∧qj M (dot c "__eq__") [u,w] S=.ok (.bl true) S
def Rr {α:Type}:Res α→Res α
 | .exc _ _=>.bad
 | r=>r
def Ob.lim (n:Nat):Ob→Bool
 | .lst xs | .dct _ xs | .ins _ _ xs | .Ac _ xs=>aV n xs
mutual
def Vl.jW (f:Nat→Option Vl):Vl→Option Vl
 | .tup xs=>(iV f xs).map .tup
 | .lst xs=>(iV f xs).map .lst
 | .dct ks xs=>(iV f xs).map (.dct ks)
 | .obj c ns xs=>(iV f xs).map (.obj c ns)
 | .err c ns xs=>(iV f xs).map (.err c ns)
 | .ref r=>f r
 | .non=>some .non | .bl b=>some (.bl b) | .int i=>some (.int i) | .str s=>some (.str s)
def iV (f:Nat→Option Vl):List Vl→Option (List Vl)
 | []=>some []
 | x::xs=>(Vl.jW f x).bind fun y=>(iV f xs).map fun ys=>y::ys
end
def Ob.jW (f:Nat→Option Vl):Ob→Option Ob
 | .lst xs=>(iV f xs).map .lst
 | .dct ks xs=>(iV f xs).map (.dct ks)
 | .ins c ns xs=>(iV f xs).map (.ins c ns)
 | .Ac ks xs=>(iV f xs).map (.Ac ks)
def fI (n r0:Nat) (T:Hs):Nat→Nat→Option Vl
 | 0,r=>if r<n then some (.ref r) else none
 | k+1,r=>if r<n then some (.ref r) else if r=r0 then none else match T[r]? with
  | some o=>(o.jW (fI n r0 T k)).map Ob.inl
  | none=>none
def Ar:Nat:=6
def ahF (n:Nat) (T:Hs):Res Ob:=if (T.take n).all (Ob.lim n)=true then (match T[n]? with
  | some o=>match o.jW (fI n n T Ar) with
   | some o'=>.ok o' (T.take n)
   | none=>.bad
  | none=>.bad)
 else .bad
def Cq (S1:Hs):Res Rv→Res Ob
 | .ok (.val .non) T=>match T.getLast? with
  | some o=>if T.length=S1.length+1∧T.all (Ob.lim S1.length)=true then .ok o T.dropLast else ahF S1.length T
  | none=>.bad
 | .exc x T=>if S1.length<T.length∧(T.take S1.length).all (Ob.lim S1.length)=true∧x.lim S1.length=true then .exc x (T.take S1.length) else .bad
 | _=>.bad
def V6:Key→Vl
 | .inl i=>.int i
 | .inr s=>.str s
def Dk.xs:Dk→List Key→List Vl→List Vl
 | .keys,ks,_=>ks.map V6
 | .items,ks,vs=>bQ ks vs
def ac5 (η:Sg) (S:Hs):ZR→Option Vl
 | .nm i=>match η[i]? with
  | some (some x)=>some x
  | _=>none
 | .fl i f=>match η[i]? with
  | some (some x)=>match lJ S x with
   | some (_,ns,vs)=>cD ns vs f
   | none=>none
  | _=>none
structure Hld where
 ks:List Key
 vs:List Vl
 S:Hs
 bk:Option Nat
def hold (S:Hs):Vl→Option Hld
 | .dct ks vs=>some ⟨ks,vs,S,none⟩
 | .ref r=>match S[r]? with
  | some (.dct ks vs)=>some ⟨ks,vs,S.set r (.Ac ks vs),some r⟩
  | some (.Ac ks vs)=>some ⟨ks,vs,S,none⟩
  | _=>none
 | _=>none
def Ss (bk:Option Nat) (S:Hs):Option Hs:=match bk with
 | none=>some S
 | some r=>match S[r]? with
  | some (.Ac ks vs)=>some (S.set r (.dct ks vs))
  | _=>none
def Out.back (bk:Option Nat):Out→Out
 | .nx η S=>match Ss bk S with
  | some T=>.nx η T
  | none=>.bad
 | .ret r S=>match Ss bk S with
  | some T=>.ret r T
  | none=>.bad
 | .brk η S=>match Ss bk S with
  | some T=>.brk η T
  | none=>.bad
 | .cnt η S=>match Ss bk S with
  | some T=>.cnt η T
  | none=>.bad
 | .exc x η S=>if bk.isSome=true then .exc x η S else .bad
 | .bad=>.bad
open Classical in
mutual
noncomputable def ev:E→Sg→Hs→Res Vl
 | .var i,η,S=>match η[i]? with
  | some (some x)=>.ok x S
  | _=>.bad
 | .cst v,_,S=>.ok v S
 | .bin op a b,η,S=>(ev a η S).bind fun x S1=>(ev b η S1).bind fun y S2=>gY S2 (binop op x y)
 | .cmp op a b,η,S=>(ev a η S).bind fun x S1=>(ev b η S1).bind fun y S2=>(gY S2 (cmpop op S2 x y)).bind fun b S3=>.ok (.bl b) S3
 | .Rq p q a b c,η,S=>(ev a η S).bind fun x S1=>(ev b η S1).bind fun y S2=>(gY S2 (cmpop p S2 x y)).bind fun k S3=>
   if k=true then (ev c η S3).bind fun z S4=>(gY S4 (cmpop q S4 y z)).bind fun b S5=>.ok (.bl b) S5 else .ok (.bl false) S3
 | .band a b,η,S=>(ev a η S).bind fun x S1=>match x with
  | .bl true=>ev b η S1
  | .bl false=>.ok (.bl false) S1
  | _=>.bad
 | .bor a b,η,S=>(ev a η S).bind fun x S1=>match x with
  | .bl true=>.ok (.bl true) S1
  | .bl false=>ev b η S1
  | _=>.bad
 | .orv a b,η,S=>(ev a η S).bind fun x S1=>match truth S1 x with
  | some true=>.ok x S1
  | some false=>ev b η S1
  | none=>.bad
 | .pY a,η,S=>(ev a η S).bind fun x S1=>match x with
  | .bl b=>.ok (.bl (!b)) S1
  | _=>.bad
 | .tru a,η,S=>(ev a η S).bind fun x S1=>(gY S1 (truth S1 x)).bind fun b S2=>.ok (.bl b) S2
 | .neg a,η,S=>(ev a η S).bind fun x S1=>match x with
  | .int i=>.ok (.int (-i)) S1
  | _=>.bad
 | .ite t a b,η,S=>(ev t η S).bind fun x S1=>match x with
  | .bl true=>ev a η S1
  | .bl false=>ev b η S1
  | _=>.bad
 | .tup es,η,S=>(evs es η S).bind fun xs S1=>if xs.length≤sizeLine then .ok (.tup xs) S1 else .bad
 | .idx a i,η,S=>(ev a η S).bind fun x S1=>(ev i η S1).bind fun y S2=>gY S2 (dM S2 x y)
 | .Cz a lo hi,η,S=>(ev a η S).bind fun x S1=>(YT lo η S1).bind fun l S2=>(YT hi η S2).bind fun h S3=>gY S3 (Dy x l h)
 | .kin g ng a,η,S=>(ev a η S).bind fun x S1=>match x,M.kd g with
  | .str z,some kv=>.ok (.bl (if ng then !(kv.lookup z).isSome else (kv.lookup z).isSome)) S1
  | _,_=>.bad
 | .amc g a,η,S=>(ev a η S).bind fun x S1=>match x,M.kd g with
  | .str z,some kv=>gY S1 (kv.lookup z)
  | _,_=>.bad
 | .b1 f a,η,S=>(ev a η S).bind fun x S1=>gY S1 (ir f S1 x)
 | .isD a,η,S=>(ev a η S).bind fun x S1=>.ok (.bl (aX S1 x).isSome) S1
 | .isL a,η,S=>(ev a η S).bind fun x S1=>.ok (.bl (bV S1 x).isSome) S1
 | .af3 a,η,S=>(ev a η S).bind fun x S1=>.ok (.bl x.af3) S1
 | .isC c a,η,S=>(ev a η S).bind fun x S1=>match lJ S1 x with
  | some (d,_,_)=>if c=d then .ok (.bl true) S1 else .bad
  | none=>.ok (.bl false) S1
 | .call q es,η,S=>(evs es η S).bind fun xs S1=>qj M q xs S1
 | .Zi c m a es,η,S=>(ev a η S).bind fun x S1=>if lF S1 x c m then (evs es η S1).bind fun xs S2=>qj M (dot c m) (x::xs) S2 else .bad
 | .fld a f,η,S=>(ev a η S).bind fun x S1=>match lJ S1 x with
  | some (_,ns,vs)=>gY S1 (cD ns vs f)
  | none=>.bad
 | .tm m a b,η,S=>(ev a η S).bind fun x S1=>match x with
  | .str z=>(ev b η S1).bind fun y S2=>gY S2 (zu m S2 z y)
  | _=>.bad
 | .mut m a es,η,S=>(ev a η S).bind fun x S1=>match pZ S1 x with
  | some r=>(evs es η S1).bind fun xs S2=>match S2[r]? with
   | some (.lst ys)=>match KJ m ys xs with
    | some (v,zs)=>.ok v (S2.set r (.lst zs))
    | none=>.bad
   | _=>.bad
  | none=>.bad
 | .agR c a,η,S=>(ev a η S).bind fun x S1=>if lF S1 x c "__len__" then (Rr (qj M (dot c "__len__") [x] S1)).bind fun v S2=>match v with
   | .int n=>if 0≤n∧n<2 ^ 63 then .ok (.int n) S2 else .bad
   | _=>.bad
  else .bad
 | .oeq c ng a b,η,S=>(ev a η S).bind fun x S1=>(ev b η S1).bind fun y S2=>if lF S2 x c "__eq__"&&eqY S2 c y then (Rr (qj M (dot c "__eq__") [x,y] S2)).bind fun v S3=>match v with
   | .bl d=>.ok (.bl (if ng then !d else d)) S3
   | _=>.bad
  else .bad
 | .amb c a b,η,S=>(ev a η S).bind fun x S1=>(ev b η S1).bind fun y S2=>match bV S2 x,bV S2 y with
  | some [u],some [w]=>if lF S2 u c "__eq__"&&lF S2 w c "__eq__" then (match qj M (dot c "__eq__") [u,w] S2 with
    | .ok (.bl true) S3=> @ite _ (S3=S2) (Classical.propDecidable _) (.ok (.bl false) S2) .bad
    | _=>.bad) else .bad
  | _,_=>.bad
 | .leq c a b,η,S=>(ev a η S).bind fun x S1=>(ev b η S1).bind fun y S2=>match x,y with
  | .non,.non=>.ok (.bl true) S2
  | x,y=>match bV S2 x,bV S2 y with
   | some us,some ws=> @ite _ (alm M c S2 us ws) (Classical.propDecidable _) (.ok (.bl true) S2) .bad
   | _,_=>.bad
 | .fs es,η,S=>(Rr (evs es η S)).bind fun xs S1=>(gY S1 (rB xs Str.empty)).bind fun z S2=>.ok (.str z) S2
 | .mn a b,η,S=>(ev a η S).bind fun x S1=>(ev b η S1).bind fun y S2=>match x,y with
  | .int i,.int j=>.ok (.int (if j<i then j else i)) S2
  | _,_=>.bad
 | .mx a b,η,S=>(ev a η S).bind fun x S1=>(ev b η S1).bind fun y S2=>match x,y with
  | .int i,.int j=>.ok (.int (if j>i then j else i)) S2
  | _,_=>.bad
 | .ext a b,η,S=>(ev a η S).bind fun x S1=>match pZ S1 x with
  | some r=>(ev b η S1).bind fun y S2=>match S2[r]?,y with
   | some (.lst ys),.ref q=>match S2[q]? with
    | some (.lst zs)=>if ys.length+zs.length≤sizeLine then .ok .non (S2.set r (.lst (ys++zs))) else .bad
    | _=>.bad
   | _,_=>.bad
  | none=>.bad
 | .xP c a,η,S=>(ev a η S).bind fun x S1=>match x with
  | .err d _ _=>gY S1 ((M.sub d c).map .bl)
  | _=>.bad
 | .xf a f,η,S=>(ev a η S).bind fun x S1=>match x with
  | .err d ns vs=>if M.xi d=some (some f) then gY S1 (cD ns vs f) else .bad
  | _=>.bad
 | .abu a b,η,S=>(ev a η S).bind fun x S1=>if (bV S1 x).isSome=true then (ev b η S1).bind fun y S2=>gY S2 (QR S2 x y) else .bad
 | .ab3 a b,η,S=>(ev a η S).bind fun x S1=>if (bV S1 x).isSome=true then (ev b η S1).bind fun y S2=>gY S2 (yU S2 x y) else .bad
 | .lset a,η,S=>(ev a η S).bind fun x S1=>match (bV S1 x).bind uC with
  | some zs=>if zs.length<64 then .ok (.int ((Ae zs).length:Nat)) S1 else .bad
  | none=>.bad
 | .aiX a,η,S=>(ev a η S).bind fun x S1=>match (bV S1 x).bind Cr with
  | some zs=>if zs.length<64 then .ok (.int ((aiw zs).length:Nat)) S1 else .bad
  | none=>.bad
 | .Wy a y z,η,S=>(ev a η S).bind fun v S1=>match v with
  | .str x=>if x.length+(x.length+1)* z.length≤16777216 then .ok (.str (Txt.replace x y z)) S1 else .bad
  | _=>.bad
 | .replL a y z0 z1 z2 z3 i,η,S=>(ev a η S).bind fun v S1=>match v with
  | .str x=>(ev i η S1).bind fun w S2=>match w with
   | .int k=>match [z0,z1,z2,z3][k.toNat]? with
    | some z=>if 0≤k∧(y==z)=false∧x.length+(x.length+1)* z.length≤16777216 then .ok (.str (Txt.replace x y z)) S2 else .bad
    | none=>.bad
   | _=>.bad
  | _=>.bad
 | .aii own iJ t s jZ,η,S=>(pC s η S).bind fun p S1=>(Sd (fun x S2=>match aZ t x (bR η own) with
   | none=>.bad
   | some η1=>(dB jZ η1 S2).bind fun b S3=>if b=true then (ev iJ η1 S3).bind fun y S4=>.ok (some y) S4 else .ok none S3) p.1 S1.length p.2 (S1++[.lst []])).bind fun _ S2=>.ok (.ref S1.length) S2
 | .agq own iJ t k p jZ,η,S=>match ac5 η S p with
  | some x=>match hold S x with
   | some h=>(Sd (fun x S2=>match aZ t x (bR η own) with
    | none=>.bad
    | some η1=>(dB jZ η1 S2).bind fun b S3=>if b=true then (ev iJ η1 S3).bind fun y S4=>.ok (some y) S4 else .ok none S3) [] h.S.length (k.xs h.ks h.vs) (h.S++[.lst []])).bind fun _ S2=>match Ss h.bk S2 with
     | some T=>.ok (.ref h.S.length) T
     | none=>.bad
   | none=>.bad
  | none=>.bad
 | .alh own iJ t s jZ,η,S=>(pC s η S).bind fun p S1=>(Bw (fun x S2=>match aZ t x (bR η own) with
   | none=>.bad
   | some η1=>(dB jZ η1 S2).bind fun b S3=>if b=true then (ev iJ η1 S3).bind fun y S4=>match y with
     | .int z=>.ok [z] S4
     | _=>.bad
    else .ok [] S3) p.1 p.2 S1).bind fun zs S2=>if zs.length<64 then .ok (.int ((aiw zs).length:Nat)) S2 else .bad
 | .dgt a k d,η,S=>(ev a η S).bind fun x S1=>if (aX S1 x).isSome=true then (ev k η S1).bind fun y S2=>(ev d η S2).bind fun z S3=>match aX S3 x,y.key with
  | some (ks,vs),some kk=>.ok ((cD ks vs kk).getD z) S3
  | _,_=>.bad
  else .bad
 | .akJ a k,η,S=>(ev a η S).bind fun x S1=>if (aX S1 x).isSome=true then (ev k η S1).bind fun y S2=>match x,y.key with
  | .ref r,some kk=>match S2[r]? with
   | some (.dct ks vs)=>match cD ks vs kk with
    | some v=>.ok v (S2.set r (.dct (delD kk ks vs).1 (delD kk ks vs).2))
    | none=>.bad
   | _=>.bad
  | _,_=>.bad
  else .bad
 | .lsc own iJ t s jZ,η,S=>(pC s η S).bind fun p S1=>(Bw (fun x S2=>match aZ t x (bR η own) with
   | none=>.bad
   | some η1=>(dB jZ η1 S2).bind fun b S3=>if b=true then (ev iJ η1 S3).bind fun y S4=>match y with
     | .str z=>.ok [z] S4
     | _=>.bad
    else .ok [] S3) p.1 p.2 S1).bind fun zs S2=>if zs.length<64 then .ok (.int ((Ae zs).length:Nat)) S2 else .bad
 | .mxd a d,η,S=>(ev a η S).bind fun x S1=>(ev d η S1).bind fun y S2=>match (bV S2 x).bind Cr,y with
  | some ns,.int j=>.ok (.int ((QJ ns).getD j)) S2
  | _,_=>.bad
 | .akZ a,η,S=>(ev a η S).bind fun x S1=>match x with
  | .tup xs=>.ok (.tup xs.reverse) S1
  | _=>.bad
 | .alY c es,η,S=>(evs es η S).bind fun xs S1=>match M.cal (dot c "__init__") (.ref S1.length::xs) (S1++[.ins c [] []]) with
  | .ok (.val .non) T=>.ok (.ref S1.length) T
  | _=>.bad
 | .K7 c a,η,S=>(ev a η S).bind fun x S1=>if lF S1 x c "__repr__" then (Rr (qj M (dot c "__repr__") [x] S1)).bind fun v S2=>match v with
   | .str z=>.ok (.str z) S2
   | _=>.bad
  else .bad
 | .inl f,η,S=>(d9 f η S).bind fun o S1=>.ok o.inl S1
 | .CG f,η,S=>(d9 f η S).bind fun o S1=>.ok (.ref S1.length) (S1++[o])
 | .bad,_,_=>.bad
noncomputable def d9:F→Sg→Hs→Res Ob
 | .lst es,η,S=>(evs es η S).bind fun xs S1=>if xs.length≤sizeLine then .ok (.lst xs) S1 else .bad
 | .cat a b,η,S=>(ev a η S).bind fun x S1=>(ev b η S1).bind fun y S2=>match bV S2 x,bV S2 y with
  | some xs,some ys=>if xs.length+ys.length≤sizeLine then .ok (.lst (xs++ys)) S2 else .bad
  | _,_=>.bad
 | .rep a b,η,S=>(ev a η S).bind fun x S1=>(ev b η S1).bind fun y S2=>match bV S2 x,y with
  | some xs,.int n=>if 0≤n∧n<2 ^ 63∧xs.length* n.toNat≤sizeLine then .ok (.lst (List.replicate n.toNat xs).flatten) S2 else .bad
  | _,_=>.bad
 | .slc a lo hi,η,S=>(ev a η S).bind fun x S1=>(YT lo η S1).bind fun l S2=>(YT hi η S2).bind fun h S3=>match bV S3 x with
  | some xs=>.ok (.lst (tH xs l h)) S3
  | none=>.bad
 | .cpy a,η,S=>(ev a η S).bind fun x S1=>match cV S1 x with
  | some xs=>.ok (.lst xs) S1
  | none=>.bad
 | .srt a,η,S=>(ev a η S).bind fun x S1=>match ajs S1 x with
  | some xs=>.ok (.lst xs) S1
  | none=>.bad
 | .comp own iJ t s jZ,η,S=>(pC s η S).bind fun p S1=>(gJ (fun x S2=>match aZ t x (bR η own) with
   | none=>.bad
   | some η1=>(dB jZ η1 S2).bind fun b S3=>if b=true then (ev iJ η1 S3).bind fun y S4=>.ok (some y) S4 else .ok none S3) p.1 p.2 [] S1).bind fun ys S2=>.ok (.lst ys) S2
 | .WL own iJ t s,η,S=>(pC s η S).bind fun p S1=>(m7 (fun x S2=>match aZ t x (bR η own) with
   | none=>.bad
   | some η1=>(ev iJ η1 S2).bind fun y S4=>.ok (some y) S4) p.1 p.2 [] S1).bind fun ys S2=>.ok (.lst ys) S2
 | .akO a,η,S=>(ev a η S).bind fun x S1=>match (bV S1 x).bind uC with
  | some zs=>if zs.length<64 then .ok (.lst ((dO (Ae zs)).map .str)) S1 else .bad
  | none=>.bad
 | .ahk own iJ t s jZ Rm t1 s1 Sy,η,S=>(pC s η S).bind fun p S1=>(Bw (fun x S2=>match aZ t x (bR η own) with
   | none=>.bad
   | some η1=>(dB jZ η1 S2).bind fun b S3=>if b=true then (pC s1 η1 S3).bind fun p1 S4=>Bw (fun y S5=>match aZ t1 y (bR η1 Rm) with
     | none=>.bad
     | some η2=>(dB Sy η2 S5).bind fun b1 S6=>if b1=true then (ev iJ η2 S6).bind fun y S7=>match y with
       | .str z=>.ok [z] S7
       | _=>.bad
      else .ok [] S6) p1.1 p1.2 S4
    else .ok [] S3) p.1 p.2 S1).bind fun zs S2=>if zs.length<64 then .ok (.lst ((dO (Ae zs)).map .str)) S2 else .bad
 | .bad,_,_=>.bad
 | .call q es,η,S=>(evs es η S).bind fun xs S1=>(M.cal q xs S1).bind fun r S2=>match r with
  | .frs o=>.ok o S2
  | .val _=>.bad
 | .Zi c m a es,η,S=>(ev a η S).bind fun x S1=>if lF S1 x c m then (evs es η S1).bind fun xs S2=>(M.cal (dot c m) (x::xs) S2).bind fun r S3=>match r with
   | .frs o=>.ok o S3
   | .val _=>.bad
  else .bad
 | .dsp ks vs,η,S=>match evs vs η (S++[.dct [] []]) with
  | .ok xs T=>if T=S++[.dct [] []]∧aV S.length xs=true∧ks.Nodup∧ks.length=xs.length∧ks.length≤15 then .ok (.dct (ks.map Sum.inr) xs) S else .bad
  | _=>.bad
 | .new c es,η,S=>(evs es η S).bind fun xs S1=>Cq S1 (M.cal (dot c "__init__") (.ref S1.length::xs) (S1++[.ins c [] []]))
 | .split a b,η,S=>(ev a η S).bind fun x S1=>match x with
  | .str z=>(ev b η S1).bind fun y S2=>match y with
   | .str w=>if w.length≠0∧z.length+2≤sizeLine then .ok (.lst ((Txt.split z w).map .str)) S2 else .bad
   | _=>.bad
  | _=>.bad
 | .ald es,η,S=>match evs es η (S++[.dct [] []]) with
  | .ok xs T=>match aeU xs with
   | some ps=>if T=S++[.dct [] []]∧aV S.length (j5 ps [] []).2=true∧ps.length≤15 then .ok (.dct (j5 ps [] []).1 (j5 ps [] []).2) S else .bad
   | none=>.bad
  | _=>.bad
 | .xR ks vs,η,S=>match evs vs η (S++[.dct [] []]) with
  | .ok xs T=>if T=S++[.dct [] []]∧aV S.length xs=true∧ks.Nodup∧ks.length=xs.length∧ks.length≤15 then .ok (.dct ks xs) S else .bad
  | _=>.bad
 | .Ku own ke ve t s jZ,η,S=>(pC s η S).bind fun p S1=>(tM (fun x S2=>match aZ t x (bR η own) with
   | none=>.bad
   | some η1=>(dB jZ η1 S2).bind fun b S3=>if b=true then (ev ke η1 S3).bind fun k S4=>(ev ve η1 S4).bind fun y S5=>.ok (some (k,y)) S5 else .ok none S3) p.1 p.2 [] [] S1).bind fun q S2=>.ok (.dct q.1 q.2) S2
 | .yH own iJ t i jZ,η,S=>match η[i]? with
  | some (some (.dct ks vs))=>(gJ (fun x S2=>match aZ t x (bR η own) with
   | none=>.bad
   | some η1=>(dB jZ η1 S2).bind fun b S3=>if b=true then (ev iJ η1 S3).bind fun y S4=>.ok (some y) S4 else .ok none S3) [] (bQ ks vs) [] S).bind fun ys S2=>.ok (.lst ys) S2
  | _=>.bad
 | .YG a,η,S=>(ev a η S).bind fun x S1=>match Ak S1 x with
  | some xs=>.ok (.lst xs) S1
  | none=>.bad
 | .XR a,η,S=>(ev a η S).bind fun x S1=>match Et S1 x with
  | some xs=>.ok (.lst xs) S1
  | none=>.bad
 | .alF a,η,S=>(ev a η S).bind fun x S1=>match ag8 S1 x with
  | some o=>.ok o S1
  | none=>.bad
 | .itl a,η,S=>(ev a η S).bind fun x S1=>match aX S1 x with
  | some (ks,vs)=>.ok (.lst (bQ ks vs)) S1
  | none=>.bad
 | .vll a,η,S=>(ev a η S).bind fun x S1=>match aX S1 x with
  | some (_,vs)=>.ok (.lst vs) S1
  | none=>.bad
 | .kyl a,η,S=>(ev a η S).bind fun x S1=>match aX S1 x with
  | some (ks,_)=>.ok (.lst (ks.map V6)) S1
  | none=>.bad
 | .dcp a,η,S=>(ev a η S).bind fun x S1=>match aX S1 x with
  | some (ks,vs)=>.ok (.dct ks vs) S1
  | none=>.bad
 | .rev a,η,S=>(ev a η S).bind fun x S1=>match bV S1 x with
  | some xs=>.ok (.lst xs.reverse) S1
  | none=>.bad
 | .ajb own iJ t s jZ Rm t1 s1 Sy,η,S=>(pC s η S).bind fun p S1=>(RW (fun x S2=>match aZ t x (bR η own) with
   | none=>.bad
   | some η1=>(dB jZ η1 S2).bind fun b S3=>if b=true then (pC s1 η1 S3).bind fun p1 S4=>.ok (some (η1,p1.1,p1.2)) S4 else .ok none S3)
   (fun η1 y S5=>match aZ t1 y (bR η1 Rm) with
    | none=>.bad
    | some η2=>(dB Sy η2 S5).bind fun b1 S6=>if b1=true then (ev iJ η2 S6).bind fun y S7=>.ok (some y) S7 else .ok none S6) p.1 p.2 [] S1).bind fun ys S2=>.ok (.lst ys) S2
 | .aiV own iJ t k p jZ,η,S=>match ac5 η S p with
  | some x=>match hold S x with
   | some h=>(gJ (fun x S2=>match aZ t x (bR η own) with
    | none=>.bad
    | some η1=>(dB jZ η1 S2).bind fun b S3=>if b=true then (ev iJ η1 S3).bind fun y S4=>.ok (some y) S4 else .ok none S3) [] (k.xs h.ks h.vs) [] h.S).bind fun ys S2=>match Ss h.bk S2 with
     | some T=>.ok (.lst ys) T
     | none=>.bad
   | none=>.bad
  | none=>.bad
 | .agf own ke ve t k p jZ,η,S=>match ac5 η S p with
  | some x=>match hold S x with
   | some h=>(tM (fun x S2=>match aZ t x (bR η own) with
    | none=>.bad
    | some η1=>(dB jZ η1 S2).bind fun b S3=>if b=true then (ev ke η1 S3).bind fun k S4=>(ev ve η1 S4).bind fun y S5=>.ok (some (k,y)) S5 else .ok none S3) [] (k.xs h.ks h.vs) [] [] h.S).bind fun q S2=>match Ss h.bk S2 with
     | some T=>.ok (.dct q.1 q.2) T
     | none=>.bad
   | none=>.bad
  | none=>.bad
noncomputable def pC:Src→Sg→Hs→Res (List Lk × List Vl)
 | .sq e,η,S=>(ev e η S).bind fun x S1=>gY S1 (lZ S1 x)
 | .xY e,η,S=>(ev e η S).bind fun x S1=>match x with
  | .int j=>if -(2 ^ 62)≤j∧j<2 ^ 62 then .ok ([],jg 0 j.toNat) S1 else .bad
  | _=>.bad
 | .alG a b,η,S=>(ev a η S).bind fun x S1=>(ev b η S1).bind fun y S2=>match x,y with
  | .int i,.int j=>if -(2 ^ 62)≤i∧i<2 ^ 62∧-(2 ^ 62)≤j∧j<2 ^ 62 then .ok ([],jg i (j - i).toNat) S2 else .bad
  | _,_=>.bad
 | .Y6 e st,η,S=>(ev e η S).bind fun x S1=>(gY S1 (lZ S1 x)).bind fun p S2=>.ok (p.1,iH st p.2) S2
 | .zip a b,η,S=>(ev a η S).bind fun x S1=>(ev b η S1).bind fun y S2=>(gY S2 (aeZ S2 x)).bind fun p S3=>(gY S3 (aeZ S3 y)).bind fun q S4=>.ok (p.1++q.1,Cm p.2 q.2) S4
 | .chars e,η,S=>(ev e η S).bind fun x S1=>match x with
  | .str z=>.ok ([],iI z) S1
  | _=>.bad
 | .items e,η,S=>(ev e η S).bind fun x S1=>match x with
  | .dct ks vs=>.ok ([],bQ ks vs) S1
  | .ref r=>match S1[r]? with
   | some (.dct ks vs)=>.ok ([(r,.dct ks vs)],bQ ks vs) S1
   | _=>.bad
  | _=>.bad
noncomputable def evs:Es→Sg→Hs→Res (List Vl)
 | .nil,_,S=>.ok [] S
 | .cons e es,η,S=>(ev e η S).bind fun x S1=>(evs es η S1).bind fun xs S2=>.ok (x::xs) S2
noncomputable def dB:Es→Sg→Hs→Res Bool
 | .nil,_,S=>.ok true S
 | .cons e es,η,S=>(ev e η S).bind fun x S1=>match x with
  | .bl true=>dB es η S1
  | .bl false=>.ok false S1
  | _=>.bad
noncomputable def YT:Oe→Sg→Hs→Res (Option Int)
 | .none,_,S=>.ok none S
 | .some e,η,S=>(ev e η S).bind fun x S1=>match x with
  | .int i=>.ok (some i) S1
  | _=>.bad
end
def afk (S:Hs) (x:Vl) (f:Str) (y:Vl):Option Hs:=match x with
 | .ref r=>match S[r]? with
  | some (.ins c ns vs)=>if ns.length<1000 then some (S.set r (.ins c (Ez ns vs f y).1 (Ez ns vs f y).2)) else none
  | _=>none
 | _=>none
def Gi (f:Str→Str→Option Bool) (d:Str):List Str→Option Bool
 | []=>some false
 | c::l=>match f d c,Gi f d l with
  | some a,some b=>some (a || b)
  | _,_=>none
def Res.out {α:Type} (r:Res α) (η:Sg) (f:α→Hs→Out):Out:=match r with
 | .ok a S=>f a S
 | .exc x S=>.exc x η S
 | .bad=>.bad
mutual
noncomputable def aP:C→Sg→Hs→Out
 | .asg t e,η,S=>(ev M e η S).out η fun x S1=>match aZ t x η with
  | some η1=>.nx η1 S1
  | none=>.bad
 | .star is i e,η,S=>(ev M e η S).out η fun x S1=>match cV S1 x with
  | some xs=>match ab2 is xs η with
   | some (η1,ys)=>.nx (η1.set i (some (.lst ys))) S1
   | none=>.bad
  | none=>.bad
 | .par i j a b,η,S=>(ev M a η S).out η fun x S1=>(ev M b η S1).out η fun y S2=>.nx ((η.set i (some x)).set j (some y)) S2
 | .fset a f e,η,S=>(ev M e η S).out η fun y S1=>(ev M a η S1).out η fun x S2=>match x with
  | .ref r=>match S2[r]? with
   | some (.ins c ns vs)=>if ns.length<1000 then let q:=Ez ns vs f y; .nx η (S2.set r (.ins c q.1 q.2)) else .bad
   | _=>.bad
  | _=>.bad
 | .uH o i e,η,S=>(ev M e η S).out η fun y S1=>(ev M o η S1).out η fun x S2=>(ev M i η S2).out η fun k S3=>match sU S3 x k y with
  | some T=>.nx η T
  | none=>.bad
 | .Vc o1 i1 o2 i2 e,η,S=>(ev M e η S).out η fun p S1=>match p with
  | .tup [y,z]=>(ev M o1 η S1).out η fun x S2=>(ev M i1 η S2).out η fun k S3=>match sU S3 x k y with
   | some T=>(ev M o2 η T).out η fun x2 S4=>(ev M i2 η S4).out η fun k2 S5=>match sU S5 x2 k2 z with
    | some T2=>.nx η T2
    | none=>.bad
   | none=>.bad
  | _=>.bad
 | .ain a1 f1 a2 f2 e,η,S=>(ev M e η S).out η fun p S1=>match p with
  | .tup [y,z]=>(ev M a1 η S1).out η fun x S2=>match afk S2 x f1 y with
   | some T=>(ev M a2 η T).out η fun x2 S3=>match afk S3 x2 f2 z with
    | some T2=>.nx η T2
    | none=>.bad
   | none=>.bad
  | _=>.bad
 | .aj8 i t e,η,S=>(ev M e η S).out η fun x S1=>match cV S1 x with
  | some xs=>match xs.getLast? with
   | some y=>match aZ t y (η.set i (some (.lst xs.dropLast))) with
    | some η1=>.nx η1 S1
    | none=>.bad
   | none=>.bad
  | none=>.bad
 | .aug i op e,η,S=>match η[i]? with
  | some (some x)=>(ev M e η S).out η fun y S1=>match op,x,y with
   | .Add,.int a,.int b=>.nx (η.set i (some (.int (a+b)))) S1
   | .Sub,.int a,.int b=>.nx (η.set i (some (.int (a - b)))) S1
   | _,_,_=>.bad
  | _=>.bad
 | .ex e,η,S=>(ev M e η S).out η fun _ S1=>.nx η S1
 | .ret e,η,S=>(ev M e η S).out η fun x S1=>.ret (.val x) S1
 | .Y0 f,η,S=>(d9 M f η S).out η fun o S1=>.ret (.frs o) S1
 | .ak1,η,S=>.ret (.val .non) S
 | .ite t a b,η,S=>(ev M t η S).out η fun x S1=>match x with
  | .bl true=>exec a η S1
  | .bl false=>exec b η S1
  | _=>.bad
 | .for_ t s b,η,S=>(pC M s η S).out η fun p S1=>forL (fun η1 S2=>exec b η1 S2) t p.1 p.2 η S1
 | .whl t b,η,S=>Ew (fun η1 S2=>ev M t η1 S2) (fun η1 S2=>exec b η1 S2) M.fuel η S
 | .ama t k p b,η,S=>match ac5 η S p with
  | some x=>match hold S x with
   | some h=>(forL (fun η1 S2=>exec b η1 S2) t [] (k.xs h.ks h.vs) η h.S).back h.bk
   | none=>.bad
  | none=>.bad
 | .raise c es,η,S=>(evs M es η S).out η fun xs S1=>match M.xi c,xs with
  | some (some f),[x]=>.exc ⟨c,some ([f],[x])⟩ η S1
  | some none,_=>if xs.length≤1000 then .exc ⟨c,none⟩ η S1 else .bad
  | _,_=>.bad
 | .try_ b c i h,η,S=>match exec b η S with
  | .exc x η1 S1=>match M.sub x.c c with
   | some true=>if Y7 η1=true∧Uy S1=true then (match exec h (η1.set i (some x.vl)) S1 with
     | .nx η2 S2=>if Y7 (η2.set i none)=true∧Uy S2=true then .nx (η2.set i none) S2 else .bad
     | .ret r S2=>if r.ef=true∧Uy S2=true then .ret r S2 else .bad
     | _=>.bad) else .bad
   | some false=>.exc x η1 S1
   | none=>.bad
  | o=>o
 | .akI b c1 c2 i h,η,S=>match exec b η S with
  | .exc x η1 S1=>match M.sub x.c c1,M.sub x.c c2 with
   | some b1,some b2=>if (b1 || b2)=true then (if Y7 η1=true∧Uy S1=true then (match exec h (η1.set i (some x.vl)) S1 with
     | .nx η2 S2=>if Y7 (η2.set i none)=true∧Uy S2=true then .nx (η2.set i none) S2 else .bad
     | .ret r S2=>if r.ef=true∧Uy S2=true then .ret r S2 else .bad
     | _=>.bad) else .bad) else .exc x η1 S1
   | _,_=>.bad
  | o=>o
 | .akH b c1 c2 c3 i h,η,S=>match exec b η S with
  | .exc x η1 S1=>match M.sub x.c c1,M.sub x.c c2,M.sub x.c c3 with
   | some b1,some b2,some b3=>if (b1 || b2 || b3)=true then (if Y7 η1=true∧Uy S1=true then (match exec h (η1.set i (some x.vl)) S1 with
     | .nx η2 S2=>if Y7 (η2.set i none)=true∧Uy S2=true then .nx (η2.set i none) S2 else .bad
     | .ret r S2=>if r.ef=true∧Uy S2=true then .ret r S2 else .bad
     | _=>.bad) else .bad) else .exc x η1 S1
   | _,_,_=>.bad
  | o=>o
 | .fin b h,η,S=>match exec b η S with
  | .nx η1 S1=>(match exec h η1 S1 with
   | .exc _ _ _=>.bad
   | o=>o)
  | _=>.bad
 | .TY b l h,η,S=>match exec b η S with
  | .exc x η1 S1=>match Gi M.sub x.c l with
   | some true=>exec h η1 S1
   | some false=>.exc x η1 S1
   | none=>.bad
  | o=>o
 | .pass,η,S=>.nx η S
 | .brk,η,S=>.brk η S
 | .cnt,η,S=>.cnt η S
 | .bad,_,_=>.bad
noncomputable def exec:Cs→Sg→Hs→Out
 | .nil,η,S=>.nx η S
 | .cons c cs,η,S=>match aP c η S with
  | .nx η1 S1=>exec cs η1 S1
  | o=>o
end
end Oz
namespace Oz
open PySem L2 PyProof.Rows
def XW (G:bB) (W:WX) (σ:L2.St) (ρ:List Addr) (H:Hp) (x:Xc):Prop:=match x.fs with
 | none=>W (.ref (G.xl x.c)) none σ H
 | some (ns,vs)=>∀ d fs,H d=some (.xd fs)→d∉ρ→fs.map (·.1)=ns→au G ρ H vs (fs.map (·.2))→W (.ref (G.xl x.c)) (some d) σ H
def PR {α:Type} (G:bB) (W:WX) (σ:L2.St) (ρ:List Addr) (H:Hp) (r:Res α) (ok:List Addr→Hp→α→Hs→Prop):Prop:=match r with
 | .ok a S'=>∀ ρ' H',Step ρ H ρ' H'→bf G ρ' H' S'→ok ρ' H' a S'
 | .exc x S'=>∀ ρ' H',Step ρ H ρ' H'→bf G ρ' H' S'→XW G W σ ρ' H' x
 | .bad=>False
section
variable {α β:Type} {G:bB} {W:WX} {σ:L2.St} {ρ ρ':List Addr} {H H':Hp} {S:Hs}
theorem PR.step {r:Res α} {ok:List Addr→Hp→α→Hs→Prop} (h:PR G W σ ρ H r ok) (a:Step ρ H ρ' H'):PR G W σ ρ' H' r ok:=by
 cases r with
 | ok x S'=>exact fun ρ2 H2 b s=>h ρ2 H2 (a.trans b) s
 | exc x S'=>exact fun ρ2 H2 b s=>h ρ2 H2 (a.trans b) s
 | bad=>exact h
theorem PR.bind {r:Res α} {f:α→Hs→Res β} {ok:List Addr→Hp→β→Hs→Prop} (h:PR G W σ ρ H (r.bind f) ok):PR G W σ ρ H r fun ρ1 H1 a S1=>PR G W σ ρ1 H1 (f a S1) ok:=by
 cases r with
 | ok x S'=>exact fun ρ2 H2 b s=>PR.step h b
 | exc x S'=>exact h
 | bad=>exact h
theorem PR.mono {r:Res α} {ok ok':List Addr→Hp→α→Hs→Prop} (h:PR G W σ ρ H r ok) (k:∀ ρ1 H1 a S1,Step ρ H ρ1 H1→bf G ρ1 H1 S1→ok ρ1 H1 a S1→ok' ρ1 H1 a S1):PR G W σ ρ H r ok':=by
 cases r with
 | ok x S'=>exact fun ρ2 H2 b s=>k _ _ _ _ b s (h ρ2 H2 b s)
 | exc x S'=>exact h
 | bad=>exact h
theorem PR.here {x:α} {ok:List Addr→Hp→α→Hs→Prop} (h:PR G W σ ρ H (.ok x S) ok) (s:bf G ρ H S):ok ρ H x S:=h ρ H (Step.refl _ _) s
theorem PR.gY {o:Option α} {ok:List Addr→Hp→α→Hs→Prop} (h:PR G W σ ρ H (gY S o) ok):∃ x,o=some x∧PR G W σ ρ H (.ok x S) ok:=by
 cases o with
 | none=>exact h.elim
 | some x=>exact ⟨x,rfl,h⟩
end
theorem _root_.L2.PE.imp {X:Cx} {e:Expr} {t t':TE} (h:PE X e t) (k:∀ σ H Q,t' σ H Q→t σ H Q):PE X e t':=⟨fun pins s σ H Q I q=>h.run pins s σ H Q I (k σ H Q q)⟩
theorem _root_.L2.PT.imp {X:Cx} {e:Expr} {t t':TT} (h:PT X e t) (k:∀ σ H Q,t' σ H Q→t σ H Q):PT X e t':=⟨fun pins s σ H Q I q=>h.run pins s σ H Q I (k σ H Q q)⟩
theorem _root_.L2.PA.imp {X:Cx} {e:List Expr} {t t':TA} (h:PA X e t) (k:∀ σ H Q,t' σ H Q→t σ H Q):PA X e t':=⟨fun pos pins s σ H Q I q=>h.run pos pins s σ H Q I (k σ H Q q)⟩
theorem _root_.L2.PS.imp {X:Cx} {e:Stmt} {t t':TS} (h:PS X e t) (k:∀ D σ H,t' D σ H→t D σ H):PS X e t':=⟨fun pins s σ H D I q=>h.run pins s σ H D I (k D σ H q)⟩
theorem _root_.L2.PSs.imp {X:Cx} {e:List Stmt} {t t':TS} (h:PSs X e t) (k:∀ D σ H,t' D σ H→t D σ H):PSs X e t':=⟨fun pins s σ H D I q=>h.run pins s σ H D I (k D σ H q)⟩
section
variable (G:bB) (M:aF) (W:WX)
def okV (Q:VK):List Addr→Hp→Vl→Hs→Prop:=fun ρ' H' x _=>∀ v,VR G ρ' H' x v→Q v H'
def alX (Q:List V→Hp→Prop):List Addr→Hp→List Vl→Hs→Prop:=fun ρ' H' xs _=>∀ vs,au G ρ' H' xs vs→Q vs H'
def Ci (H:Hp) (Q:VK):List Addr→Hp→Ob→Hs→Prop:=fun ρ' H' o S'=>∀ p,H p=none→p∉ρ'→OR G ρ' H' p o→bf G (ρ'++[p]) H' (S'++[o])→Q (.ref p) H'
def tE (c:E):TE:=fun σ H Q=>∃ ρ η S,bf G ρ H S∧ER G ρ H η σ∧PR G W σ ρ H (ev M c η S) (okV G Q)
def tF (c:F):TE:=fun σ H Q=>∃ ρ η S,bf G ρ H S∧ER G ρ H η σ∧PR G W σ ρ H (d9 M c η S) (Ci G H Q)
def tA (c:Es):TA:=fun σ H Q=>∃ ρ η S,bf G ρ H S∧ER G ρ H η σ∧PR G W σ ρ H (evs M c η S) (alX G Q)
def tT (c:E):TT:=fun σ H Q=>∃ ρ η S,bf G ρ H S∧ER G ρ H η σ∧PR G W σ ρ H (ev M c η S) (fun _ H' x _=>∀ b,x=.bl b→Q b H')∧PR G (fun _ _ _ _=>True) σ ρ H (ev M c η S) (fun _ _ x _=>∃ b,x=.bl b)
end
end Oz
namespace Oz
open PySem L2 PyProof.Rows
section
variable {G:bB} {ρ ρ':List Addr} {H H':Hp} {S:Hs}
theorem bu (k:Same H H'):Step ρ H ρ H':=⟨List.prefix_refl _,fun a o h _=>k a o h,fun _ h=>.inl h,fun a od u h=>k a _ h⟩
theorem o8 {a:Addr} {o:HO} (n:∀ od u,H a≠some (.frz od u)):∀ b od u,H b=some (.frz od u)→upd H a o b=some (.frz od u):=fun b od u h=>by
 rw [upd_ne fun e=>n od u (by rw [← e];exact h)];exact h
theorem OR.same (a:Step ρ H ρ' H') (k:Same H H') {p:Addr} {o:Ob} (h:OR G ρ H p o):OR G ρ' H' p o:=by
 cases o with
 | lst xs=>obtain ⟨vs,h1,h2⟩:=h;exact ⟨vs,k _ _ h1,au.step a _ _ h2⟩
 | dct ks xs=>obtain ⟨vs,h1,h2,h3⟩:=h;exact ⟨vs,k _ _ h1,h2,au.step a _ _ h3⟩
 | ins c ns xs=>obtain ⟨dx,vs,h1,h2,h3⟩:=h;exact ⟨dx,vs,k _ _ h1,h2,au.step a _ _ h3⟩
 | Ac ks xs=>obtain ⟨vs,od,h1,h2,h3⟩:=h;exact ⟨vs,od,k _ _ h1,h2,au.step a _ _ h3⟩
theorem bf.same (s:bf G ρ H S) (k:Same H H'):bf G ρ H' S:=⟨s.len,s.nd,fun r o a h1 h2=>(s.at_ r o a h1 h2).same (bu k) k⟩
theorem OR.there {p:Addr} {o:Ob} (h:OR G ρ H p o):∃ u,H p=some u:=by
 cases o with
 | lst xs=>obtain ⟨vs,h1,_⟩:=h;exact ⟨_,h1⟩
 | dct ks xs=>obtain ⟨vs,h1,_⟩:=h;exact ⟨_,h1⟩
 | ins c ns xs=>obtain ⟨dx,vs,h1,_⟩:=h;exact ⟨_,h1⟩
 | Ac ks xs=>obtain ⟨vs,od,h1,_⟩:=h;exact ⟨_,h1⟩
theorem bf.mem (s:bf G ρ H S) {p:Addr} (h:p∈ρ):∃ (r:Nat) (o:Ob),S[r]? =some o∧ρ[r]? =some p∧OR G ρ H p o:=by
 obtain ⟨r,hr⟩:=List.getElem?_of_mem h
 have hl:r<S.length:=by rw [← s.len];exact (List.getElem?_eq_some_iff.mp hr).1
 exact ⟨r,S[r],List.getElem?_eq_getElem hl,hr,s.at_ r _ _ (List.getElem?_eq_getElem hl) hr⟩
theorem bf.free (s:bf G ρ H S) {p:Addr} (h:H p=none):p∉ρ:=fun q=>by
 obtain ⟨r,o,_,_,h3⟩:=s.mem q
 obtain ⟨u,hu⟩:=h3.there
 rw [h] at hu;cases hu
theorem fK {p:Addr} {o:HO} (h:H p=none):Same H (upd H p o):=fun b u e=>by rw [upd_ne (ne_of_none e h)];exact e
theorem bf.ref (s:bf G ρ H S) {r:Nat} {v:V} (h:VR G ρ H (.ref r) v) {o:Ob} (e:S[r]? =some o):∃ a,v=.ref a∧ρ[r]? =some a∧OR G ρ H a o:=by
 simp only [VR] at h
 obtain ⟨a,rfl,h1⟩:=h
 exact ⟨a,rfl,h1,s.at_ r o a e h1⟩
mutual
theorem Uj {f:Nat→Vl} (hf:∀ r v d,VR G ρ H (.ref r) v→(f r).toD=some d→Dp G.K H v d):∀ (x:Vl) (v:V) (d:PyData),VR G ρ H x v→(x.dN f).toD=some d→Dp G.K H v d
 | .non,_,_,h,e=>by
  simp only [VR] at h;simp only [Vl.dN,Vl.toD,Option.some.injEq] at e
  subst h e;exact .non
 | .bl b,_,_,h,e=>by
  simp only [VR] at h;simp only [Vl.dN,Vl.toD,Option.some.injEq] at e
  subst h e;exact .bl b
 | .int b,_,_,h,e=>by
  simp only [VR] at h;simp only [Vl.dN,Vl.toD,Option.some.injEq] at e
  subst h e;exact .int b
 | .str b,_,_,h,e=>by
  simp only [VR] at h;simp only [Vl.dN,Vl.toD,Option.some.injEq] at e
  subst h e;exact .str b
 | .tup xs,v,d,h,e=>by
  simp only [VR] at h;simp only [Vl.dN,Vl.toD] at e
  obtain ⟨a,vs,rfl,h1,h2⟩:=h
  obtain ⟨ds,e1,rfl⟩:=Option.map_eq_some_iff.mp e
  exact .tup h1.sq (Di hf xs vs ds h2 e1)
 | .lst xs,v,d,h,e=>by
  simp only [VR] at h;simp only [Vl.dN,Vl.toD] at e
  obtain ⟨a,vs,rfl,h1,h2⟩:=h
  obtain ⟨ds,e1,rfl⟩:=Option.map_eq_some_iff.mp e
  exact .lst h1.sq (Di hf xs vs ds h2 e1)
 | .dct ks xs,_,_,_,e=>by simp only [Vl.dN,Vl.toD] at e;cases e
 | .obj c ns xs,_,_,_,e=>by simp only [Vl.dN,Vl.toD] at e;cases e
 | .err c ns xs,_,_,_,e=>by simp only [Vl.dN,Vl.toD] at e;cases e
 | .ref r,v,d,h,e=>by
  simp only [Vl.dN] at e
  exact hf r v d h e
theorem Di {f:Nat→Vl} (hf:∀ r v d,VR G ρ H (.ref r) v→(f r).toD=some d→Dp G.K H v d):∀ (xs:List Vl) (vs:List V) (ds:List PyData),au G ρ H xs vs→uU (jn f xs)=some ds→DpAll G.K H vs ds
 | [],vs,ds,h,e=>by
  simp only [au] at h;simp only [jn,uU,Option.some.injEq] at e
  subst h e;exact .nil
 | x::xs,vs,ds,h,e=>by
  simp only [au] at h;simp only [jn,uU] at e
  obtain ⟨v,r,rfl,h1,h2⟩:=h
  split at e
  ·rename_i d' ds' e1 e2
   cases e
   exact .cons (Uj hf x v _ h1 e1) (Di hf xs r _ h2 e2)
  ·cases e
end
theorem ZP (s:bf G ρ H S):∀ (k:Nat) (x:Vl) (v:V) (d:PyData),VR G ρ H x v→(rF k S x).toD=some d→Dp G.K H v d
 | 0,x,v,d,h,e=>Uj (f:=.ref) (fun r v d _ e=>by have e':(none:Option PyData)=some d:=e;cases e') x v d h (by simpa only [rF] using e)
 | k+1,x,v,d,h,e=>by
  refine Uj (fun r w d' hr er=> ?_) x v d h (by simpa only [rF] using e)
  split at er
  ·rename_i o eo
   obtain ⟨a,rfl,ha,ho⟩:=s.ref hr eo
   cases o with
   | lst xs=>
    obtain ⟨vs,h1,h2⟩:=ho
    have ZZ:(rF k S (.lst xs)).toD=some d':=er
    -- the list's own items,by the same
    have key:∀ (f:Nat→Vl),(∀ r v d,VR G ρ H (.ref r) v→(f r).toD=some d→Dp G.K H v d)→((Vl.lst xs).dN f).toD=some d'→Dp G.K H (.ref a) d':=fun f hf e=>by
     simp only [Vl.dN,Vl.toD] at e
     obtain ⟨ds,e1,rfl⟩:=Option.map_eq_some_iff.mp e
     exact .lst (SqL.of h1) (Di hf xs vs ds h2 e1)
    cases k with
    | zero=>exact key .ref (fun r v d _ e=>by have e':(none:Option PyData)=some d:=e;cases e') (by simpa only [rF] using ZZ)
    | succ k=>
     refine key _ (fun r' v' d' hr' er2=> ?_) (by simpa only [rF] using ZZ)
     exact ZP s (k+1) (.ref r') v' d' hr' (by simp only [rF,Vl.dN];exact er2)
   | dct ks xs=>
    have ZZ:(rF k S (.dct ks xs)).toD=some d':=er
    cases k<;>(simp only [rF,Vl.dN,Vl.toD] at ZZ;cases ZZ)
   | ins c ns xs=>
    have ZZ:(rF k S (.obj c ns xs)).toD=some d':=er
    cases k<;>(simp only [rF,Vl.dN,Vl.toD] at ZZ;cases ZZ)
   | Ac ks xs=>
    have ZZ:(rF k S (.dct ks xs)).toD=some d':=er
    cases k<;>(simp only [rF,Vl.dN,Vl.toD] at ZZ;cases ZZ)
  ·simp only [Vl.toD] at er;cases er
theorem ue (s:bf G ρ H S) {x:Vl} {v:V} {d:PyData} (h:VR G ρ H x v) (e:dataOf S x=some d):Dp G.K H v d:=ZP s _ x v d h e
theorem uR (s:bf G ρ H S) {x:Vl} {v:V} {xs:List Vl} (h:VR G ρ H x v) (e:cV S x=some xs):∃ a vs,v=.ref a∧(SqL G.K H a vs∨SqT G.K H a vs)∧au G ρ H xs vs:=by
 cases x with
 | tup ys=>simp only [cV,Option.some.injEq] at e;subst e;simp only [VR] at h;obtain ⟨a,vs,rfl,h1,h2⟩:=h;exact ⟨a,vs,rfl,.inr h1.sq,h2⟩
 | lst ys=>simp only [cV,Option.some.injEq] at e;subst e;simp only [VR] at h;obtain ⟨a,vs,rfl,h1,h2⟩:=h;exact ⟨a,vs,rfl,.inl h1.sq,h2⟩
 | ref r=>
  simp only [cV] at e
  split at e
  ·rename_i ys eo
   cases e
   obtain ⟨a,rfl,_,vs,h1,h2⟩:=s.ref h eo
   exact ⟨a,vs,rfl,.inl (SqL.of h1),h2⟩
  ·cases e
 | _=>simp only [cV] at e;cases e
theorem lU (s:bf G ρ H S) {x:Vl} {v:V} {xs:List Vl} (h:VR G ρ H x v) (e:bV S x=some xs):∃ a vs,v=.ref a∧Rd H a (.lst vs)∧au G ρ H xs vs:=by
 cases x with
 | lst ys=>simp only [bV,Option.some.injEq] at e;subst e;simp only [VR] at h;obtain ⟨a,vs,rfl,h1,h2⟩:=h;exact ⟨a,vs,rfl,h1.1,h2⟩
 | ref r=>
  simp only [bV] at e
  split at e
  ·rename_i ys eo
   cases e
   obtain ⟨a,rfl,_,vs,h1,h2⟩:=s.ref h eo
   exact ⟨a,vs,rfl,.inl h1,h2⟩
  ·cases e
 | _=>simp only [bV] at e;cases e
theorem nJ (s:bf G ρ H S) {x:Vl} {v:V} {ks:List Key} {xs:List Vl} (h:VR G ρ H x v) (e:aX S x=some (ks,xs)):∃ a kvs,v=.ref a∧Rd H a (.dK kvs)∧kvs.map (·.1)=ks∧au G ρ H xs (kvs.map (·.2)):=by
 cases x with
 | dct zP ys=>simp only [aX,Option.some.injEq,Prod.mk.injEq] at e;obtain ⟨rfl,rfl⟩:=e;simp only [VR] at h;obtain ⟨a,vs,rfl,h1,_,h2,h3⟩:=h;exact ⟨a,vs,rfl,h1,h2,h3⟩
 | ref r=>
  simp only [aX] at e
  split at e
  ·rename_i zP ys eo
   cases e
   obtain ⟨a,rfl,_,vs,h1,h2,h3⟩:=s.ref h eo
   exact ⟨a,vs,rfl,.inl h1,h2,h3⟩
  ·rename_i zP ys eo
   cases e
   obtain ⟨a,rfl,_,vs,od,h1,h2,h3⟩:=s.ref h eo
   exact ⟨a,vs,rfl,.inr ⟨od,h1⟩,h2,h3⟩
  ·cases e
 | _=>simp only [aX] at e;cases e
theorem Mq (s:bf G ρ H S) {x:Vl} {v:V} {c:Str} {ns:List Str} {xs:List Vl} (h:VR G ρ H x v) (e:lJ S x=some (c,ns,xs)):∃ a dx fs,v=.ref a∧H a=some (.ins (G.cl c) dx fs)∧fs.map (·.1)=ns∧au G ρ H xs (fs.map (·.2)):=by
 cases x with
 | obj c' ns' ys=>simp only [lJ,Option.some.injEq,Prod.mk.injEq] at e;obtain ⟨rfl,rfl,rfl⟩:=e;simp only [VR] at h;obtain ⟨a,dx,vs,rfl,h1,_,h2,h3⟩:=h;exact ⟨a,dx,vs,rfl,h1,h2,h3⟩
 | ref r=>
  simp only [lJ] at e
  split at e
  ·rename_i c' ns' ys eo
   cases e
   obtain ⟨a,rfl,_,dx,vs,h1,h2,h3⟩:=s.ref h eo
   exact ⟨a,dx,vs,rfl,h1,h2,h3⟩
  ·cases e
 | _=>simp only [lJ] at e;cases e
theorem Wk:∀ {ns:List Str} {xs:List Vl} {fs:List (Str × V)} {f:Str} {x:Vl},fs.map (·.1)=ns→au G ρ H xs (fs.map (·.2))→cD ns xs f=some x→∃ v,fs.lookup f=some v∧VR G ρ H x v
 | [],_,_,_,_,_,_,e=>by simp [cD] at e
 | n::ns,[],_,_,_,_,_,e=>by simp [cD] at e
 | n::ns,y::xs,[],f,x,h,_,_=>by simp at h
 | n::ns,y::xs,(m,v)::fs,f,x,h,k,e=>by
  simp only [List.map_cons,List.cons.injEq] at h
  obtain ⟨rfl,h⟩:=h
  simp only [List.map_cons,au] at k
  obtain ⟨v',r,e1,k1,k2⟩:=k
  cases e1
  simp only [cD] at e
  by_cases q:m=f
  ·subst q
   rw [if_pos rfl] at e;cases e
   exact ⟨v,by simp [List.lookup],k1⟩
  ·rw [if_neg q] at e
   obtain ⟨w,e1,e2⟩:=Wk h k2 e
   exact ⟨w,by rw [List.lookup_cons,beq_eq_false_iff_ne.mpr fun z=>q z.symm];exact e1,e2⟩
theorem Oi:∀ {ks:List Key} {xs:List Vl} {kvs:List (Key × V)} {k:Key} {x:Vl},kvs.map (·.1)=ks→au G ρ H xs (kvs.map (·.2))→cD ks xs k=some x→∃ v,valV kvs k=some v∧VR G ρ H x v
 | [],_,_,_,_,_,_,e=>by simp [cD] at e
 | n::ns,[],_,_,_,_,_,e=>by simp [cD] at e
 | n::ns,y::xs,[],f,x,h,_,_=>by simp at h
 | n::ns,y::xs,(m,v)::fs,f,x,h,k,e=>by
  simp only [List.map_cons,List.cons.injEq] at h
  obtain ⟨rfl,h⟩:=h
  simp only [List.map_cons,au] at k
  obtain ⟨v',r,e1,k1,k2⟩:=k
  cases e1
  simp only [cD] at e
  by_cases q:m=f
  ·subst q
   rw [if_pos rfl] at e;cases e
   exact ⟨v,valV_pos (p:=(m,v)) rfl,k1⟩
  ·rw [if_neg q] at e
   obtain ⟨w,e1,e2⟩:=Oi h k2 e
   exact ⟨w,by rw [valV_neg (p:=(m,v)) q];exact e1,e2⟩
theorem aah {ks:List Key} {kvs:List (Key × V)} {k:Key} (h:kvs.map (·.1)=ks):(ks.any fun j=>decide (j=k))=(valV kvs k).isSome:=by
 rw [← valV_any,← h,List.any_map];rfl
theorem VR.flat {x:Vl} {v:V} (h:VR G ρ H x v) (f:x.flat=true):flatV v=true:=by
 cases x with
 | non=>simp only [VR] at h;subst h;rfl
 | bl b=>simp only [VR] at h;subst h;rfl
 | int b=>simp only [VR] at h;subst h;rfl
 | str b=>simp only [VR] at h;subst h;rfl
 | _=>simp [Vl.flat] at f
theorem VR.eqf {x y:Vl} {v w:V} (h:VR G ρ H x v) (k:VR G ρ H y w) (f:x.flat=true) (g:y.flat=true):eqV v w=eqF x y:=by
 cases x<;>first
  | (simp [Vl.flat] at f;done)
  | (cases y<;>first
    | (simp [Vl.flat] at g;done)
    | (simp only [VR] at h k;subst h;subst k;rfl))
theorem au.flats:∀ {xs:List Vl} {vs:List V} {y:Vl} {w:V},au G ρ H xs vs→VR G ρ H y w→xs.all Vl.flat=true→y.flat=true→vs.all flatV=true∧inV w vs=xs.any fun z=>eqF z y
 | [],vs,y,w,h,k,_,_=>by simp only [au] at h;subst h;exact ⟨rfl,rfl⟩
 | x::xs,vs,y,w,h,k,f,g=>by
  simp only [au] at h
  obtain ⟨v,r,rfl,h1,h2⟩:=h
  rw [List.all_cons,Bool.and_eq_true] at f
  obtain ⟨i1,i2⟩:=au.flats h2 k f.2 g
  refine ⟨by rw [List.all_cons,h1.flat f.1,i1];rfl,?_⟩
  show (eqV v w || inV w r)=(eqF x y || xs.any fun z=>eqF z y)
  rw [i2,h1.eqf k f.1 g]
theorem au.bls:∀ {xs:List Vl} {vs:List V} {bs:List Bool},au G ρ H xs vs→allB xs=some bs→vs=bs.map V.bl
 | [],vs,bs,h,e=>by simp only [au] at h;simp only [allB,Option.some.injEq] at e;subst h e;rfl
 | x::xs,vs,bs,h,e=>by
  simp only [au] at h;simp only [allB] at e
  obtain ⟨v,r,rfl,h1,h2⟩:=h
  split at e
  ·rename_i b bs' e1 e2
   cases e
   cases x<;>simp only [af1] at e1<;>cases e1
   simp only [VR] at h1;subst h1
   rw [au.bls h2 e2];rfl
  ·cases e
theorem au.ints:∀ {xs:List Vl} {vs:List V} {bs:List Int},au G ρ H xs vs→Cr xs=some bs→vs=bs.map V.int
 | [],vs,bs,h,e=>by simp only [au] at h;simp only [Cr,Option.some.injEq] at e;subst h e;rfl
 | x::xs,vs,bs,h,e=>by
  simp only [au] at h
  obtain ⟨v,r,rfl,h1,h2⟩:=h
  cases x with
  | int i=>
   simp only [Cr] at e
   obtain ⟨l,e1,rfl⟩:=Option.map_eq_some_iff.mp e
   simp only [VR] at h1;subst h1
   rw [au.ints h2 e1];rfl
  | _=>simp only [Cr] at e;cases e
theorem au.strs:∀ {xs:List Vl} {vs:List V} {bs:List Str},au G ρ H xs vs→uC xs=some bs→vs=bs.map V.str
 | [],vs,bs,h,e=>by simp only [au] at h;simp only [uC,Option.some.injEq] at e;subst h e;rfl
 | x::xs,vs,bs,h,e=>by
  simp only [au] at h
  obtain ⟨v,r,rfl,h1,h2⟩:=h
  cases x with
  | str i=>
   simp only [uC] at e
   obtain ⟨l,e1,rfl⟩:=Option.map_eq_some_iff.mp e
   simp only [VR] at h1;subst h1
   rw [au.strs h2 e1];rfl
  | _=>simp only [uC] at e;cases e
theorem au.Wn:∀ {ns:List Int},au G ρ H (ns.map .int) (ns.map V.int)
 | []=>au.nil
 | n::ns=>au.cons (by simp only [VR]) au.Wn
theorem au.WR:∀ {ns:List Str},au G ρ H (ns.map .str) (ns.map V.str)
 | []=>au.nil
 | n::ns=>au.cons (by simp only [VR]) au.WR
end
end Oz
namespace Oz
open PySem L2 PyProof.Rows
structure Good (G:bB) (k:Nat) (X:Cx):Prop where
 K:X.K=G.K
 nd:X.N.Nodup
 room:L2H.RoomH k X.A
 N7:X.A.guards=some []
 er:∀ e,G.er=some e→∃ oe vs,(e.1,oe)∈X.pn∧Zc e.2.1 e.2.2 oe∧oe.data=.fields vs
theorem Good.u64 {G:bB} {k:Nat} {X:Cx} (g:Good G k X):X.A.units+64<cLine:=by have:=g.room.un;omega
theorem Good.u1 {G:bB} {k:Nat} {X:Cx} (g:Good G k X):X.A.units+1<cLine:=by have:=g.room.un;omega
class bT (G:bB) (X:Cx):Prop where
 calm:X.calm=true
 hd:X.A.handled=none
 er:G.er=none
theorem Good.calm {G:bB} {k:Nat} {X:Cx} (g:Good G k X) [c:bT G X]:X.calm=true:=c.calm
theorem Good.rm {G:bB} {k:Nat} {X:Cx} (g:Good G k X) [c:bT G X]:Room k X.A:=⟨c.hd,g.room.dp,g.room.un⟩
section
open PySem.Spec
theorem Pj (l:Addr) (items:Array Value) (n:Nat) (dd:Option Addr) (sl:Array (Option Value)) (x:Int) (u:Tok) (c0:(decide (x< -(2 ^ 63)) || decide (x≥2 ^ 63))=false) (c1:(items.isEmpty || x==1)=true) :
  Meets (Builtin.«tuple.__mul__» ⟨[.ref l,.int x u],[]⟩) (fun _ R s=>s.heap.get? l=some { cls:=.type "tuple",dict:=dd,data:=.seq items n,slots:=sl }∧R (.ok (.ret (Value.ref l))) s):=
 .of_wp fun prog w A R s h=>by
  obtain ⟨hp,g,d,tk,os⟩:=s
  obtain ⟨hl,h⟩:=h
  have f1:=AutoSeq1.idx_int
  wp_walk using wpAny_loadPart' hl
  repeat (first
   | (refine wpAny_ite_false (decide_eq_false (by rw [c0];exact Bool.false_ne_true)) ?_;wp_walk using wpAny_loadPart' hl)
   | (refine wpAny_ite_true (decide_eq_true (by rw [c1])) ?_;wp_walk using wpAny_loadPart' hl))
  exact ⟨_,rfl,h⟩
theorem Ql (l:Addr) (items:Array Value) (n:Nat) (dd:Option Addr) (sl:Array (Option Value)) (x:Int) (u:Tok) (c0:(decide (x< -(2 ^ 63)) || decide (x≥2 ^ 63))=false) (c1:(items.isEmpty || x==1)=false) (c2:(decide (x≤0) || items.isEmpty)=true) :
  Meets (Builtin.«tuple.__mul__» ⟨[.ref l,.int x u],[]⟩) (fun _ R s=>s.heap.get? l=some { cls:=.type "tuple",dict:=dd,data:=.seq items n,slots:=sl }∧
   R (.ok (.ret (Value.ref s.heap.objs.size))) { s with heap:=s.heap.push { cls:=Value.type "tuple",data:=Data.seq #[] },toks:=s.toks }):=
 .of_wp fun prog w A R s h=>by
  obtain ⟨hp,g,d,tk,os⟩:=s
  obtain ⟨hl,h⟩:=h
  have f1:=AutoSeq1.idx_int
  wp_walk using wpAny_loadPart' hl
  repeat (first
   | (refine wpAny_ite_false (decide_eq_false (by rw [c0];exact Bool.false_ne_true)) ?_;wp_walk using wpAny_loadPart' hl)
   | (refine wpAny_ite_false (decide_eq_false (by rw [c1];exact Bool.false_ne_true)) ?_;wp_walk using wpAny_loadPart' hl)
   | (refine wpAny_ite_true (decide_eq_true (by rw [c2])) ?_;wp_walk using wpAny_loadPart' hl))
  exact ⟨_,rfl,h⟩
end
theorem dgR {H:Hp} {a:Addr} {kvs:List (Key × V)} {k:Key} (e:Rd H a (.dK kvs)):DGet H a (kV k) (valV kvs k):=.inl ⟨kvs,k,e,rfl,rfl⟩
section
variable {G:bB} {k:Nat} {X:Cx}
def Jh (G:bB) (ρ:List Addr) (H:Hp) (S:Hs) (z:Vl) (Q:VK):Prop:=∀ ρ' H',Step ρ H ρ' H'→bf G ρ' H' S→okV G Q ρ' H' z S
def alJ (G:bB) (op:Operator):R2:=fun x y H Q=>∃ ρ S a b z,bf G ρ H S∧VR G ρ H a x∧VR G ρ H b y∧binop op a b=some z∧Jh G ρ H S z Q
theorem Jh.now {ρ:List Addr} {H:Hp} {S:Hs} {z:Vl} {Q:VK} (h:Jh G ρ H S z Q) (s:bf G ρ H S) {v:V} (r:VR G ρ H z v):Q v H:=h ρ H (Step.refl _ _) s v r
theorem Jh.tup {ρ:List Addr} {H:Hp} {S:Hs} {xs:List Vl} {vs:List V} {Q:VK} (h:Jh G ρ H S (.tup xs) Q) (s:bf G ρ H S) (r:au G ρ H xs vs) {p:Addr} (hp:H p=none):Q (.ref p) (upd H p (.tup vs)):=by
 have sm:Same H (upd H p (.tup vs)):=fK hp
 refine h ρ _ (bu sm) (s.same sm) _ ?_
 simp only [VR]
 exact ⟨p,vs,rfl,.inl ⟨.inl upd_same,s.free hp⟩,au.step (bu sm) _ _ r⟩
theorem acK:OpR X (binaryOp .Mult) (fun x y H Q=>∃ l k xs,x=.ref l∧y=.int k∧SqT X.K H l xs∧xs≠[]∧0≤k∧k≤1000∧xs.length≤1000∧(k=1→Q (.ref l) H)∧∀ p,H p=none→Q (.ref p) (upd H p (.tup (List.replicate k.toNat xs).flatten))):=by
 intro pins s σ H x y v u Q I rx ry ⟨l,k,xs,e1,e2,hT,Lh,h0,h1,hz,q1,q⟩
 by_cases h2:2≤k
 ·exact op_repT pins s σ H x y v u Q I rx ry ⟨l,k,xs,e1,e2,hT,Lh,h2,h1,hz,q⟩
 subst e1 e2
 cases rx
 obtain ⟨t,rfl⟩:=ry
 obtain ⟨its,r,⟨⟨cls,dd,data,sl⟩,ho,hc,n,hd⟩,hs⟩:=I.tuple hT
 simp only at hc hd
 subst hc hd
 have hle:its.length=xs.length:=r.length.symm
 have hi:its.toArray.isEmpty=false:=by
  cases its with
  | nil=>exact absurd (List.eq_nil_of_length_eq_zero hle.symm) Lh
  | cons a b=>rfl
 have c0:(decide (k< -(2 ^ 63)) || decide (k≥2 ^ 63))=false:=by
  rw [decide_eq_false (by omega),decide_eq_false (by omega)]<;>rfl
 by_cases h3:k=1
 ·have c1:(its.toArray.isEmpty || k==1)=true:=by rw [h3];simp
  exact wpAny_binaryOp_repeat_ref (T:="tuple") (U:="int") (by decide) ⟨_,ho,rfl⟩ (fun s'=>typeIs_int s' k t) noFill_tuple_mul F.fills_int_mul F.slot_int_rmul repeat_tuple F.slot_int_index.lookup
   (call_meets F.slot_int_rmul (typeIs_int s k t) F.entry_int_rmul (F.args_int_rmul_2 _ _) (int_rmul_tuple k t l its.toArray n dd sl)
    ⟨ho,rfl,⟨_,ho,rfl⟩,call_meets F.slot_tuple_mul ⟨_,ho,rfl⟩ F.entry_tuple_mul (F.args_tuple_mul_2 _ _) (Pj l its.toArray n dd sl k t c0 c1) ⟨ho,⟨.ref l,H,I,rfl,q1 h3⟩⟩⟩)
 ·have c1:(its.toArray.isEmpty || k==1)=false:=by
   rw [hi,Bool.false_or]
   exact beq_eq_false_iff_ne.mpr h3
  have c2:(decide (k≤0) || its.toArray.isEmpty)=true:=by
   rw [decide_eq_true (by omega)];rfl
  have ek:k.toNat=0:=by omega
  rw [ek] at q
  refine wpAny_binaryOp_repeat_ref (T:="tuple") (U:="int") (by decide) ⟨_,ho,rfl⟩ (fun s'=>typeIs_int s' k t) noFill_tuple_mul F.fills_int_mul F.slot_int_rmul repeat_tuple F.slot_int_index.lookup
   (call_meets F.slot_int_rmul (typeIs_int s k t) F.entry_int_rmul (F.args_int_rmul_2 _ _) (int_rmul_tuple k t l its.toArray n dd sl)
    ⟨ho,rfl,⟨_,ho,rfl⟩,call_meets F.slot_tuple_mul ⟨_,ho,rfl⟩ F.entry_tuple_mul (F.args_tuple_mul_2 _ _) (Ql l its.toArray n dd sl k t c0 c1 c2) ⟨ho,?_⟩⟩)
  refine ⟨.ref s.heap.objs.size,_,I.laid (t':=s.toks) (o:=.tup []) (fun b ob q=>Heap.get?_push_of_some _ q) (Nat.le_refl _) ?_,rfl,q _ (I.hok.fresh (Nat.le_refl _))⟩
  exact ⟨Nat.zero_le _,_,.nil,IsTup.new _ _⟩
theorem au.rep {ρ:List Addr} {H:Hp} {xs:List Vl} {vs:List V} (h:au G ρ H xs vs):∀ n:Nat,au G ρ H (List.replicate n xs).flatten (List.replicate n vs).flatten
 | 0=>au.nil
 | n+1=>by
  rw [List.replicate_succ,List.replicate_succ,List.flatten_cons,List.flatten_cons]
  exact h.append (au.rep h n)
theorem ag4 (g:Good G k X) (op:Operator):OpR X (binaryOp op) (alJ G op):=by
 intro pins st σ H x y v u Q I rx ry h
 obtain ⟨ρ,S,a,b,z,s,ra,rb,e,q⟩:=h
 unfold binop at e
 split at e
 ·-- ints
  simp only [VR] at ra rb;subst ra rb;cases e
  exact op_add pins st σ H _ _ v u Q I rx ry ⟨_,_,rfl,rfl,q.now s (by simp only [VR])⟩
 ·simp only [VR] at ra rb;subst ra rb
  split at e
  ·rename_i hz
   cases e
   exact op_add_str pins st σ H _ _ v u Q I rx ry ⟨_,_,rfl,rfl,hz,q.now s (by simp only [VR])⟩
  ·cases e
 ·split at e
  ·rename_i xs ys hz
   cases e
   have ra':=ra
   simp only [VR] at ra rb
   obtain ⟨p,vs,rfl,h1,h2⟩:=ra
   obtain ⟨p',ws,rfl,h3,h4⟩:=rb
   have rb':VR G ρ H (.tup ys) (.ref p'):=by simp only [VR];exact ⟨p',ws,rfl,h3,h4⟩
   refine op_catA pins st σ H _ _ v u Q I rx ry ⟨p,p',vs,ws,rfl,rfl,by rw [g.K];exact h1.sq,by rw [g.K];exact h3.sq,by rw [← h2.length,← h4.length];exact hz,fun e=> ?_,fun _ e=> ?_,fun _ _ p hp=> ?_⟩
   ·subst e
    have:=h2.length
    obtain rfl:xs=[]:=List.eq_nil_of_length_eq_zero (by simpa using this)
    rw [List.nil_append] at q
    exact q.now s rb'
   ·subst e
    have:=h4.length
    obtain rfl:ys=[]:=List.eq_nil_of_length_eq_zero (by simpa using this)
    rw [List.append_nil] at q
    exact q.now s ra'
   ·exact q.tup s (h2.append h4) hp
  ·cases e
 ·simp only [VR] at ra rb;subst ra rb;cases e
  exact op_sub pins st σ H _ _ v u Q I rx ry ⟨_,_,rfl,rfl,q.now s (by simp only [VR])⟩
 ·simp only [VR] at ra rb;subst ra rb
  split at e
  ·rename_i hz
   cases e
   refine op_mul pins st σ H _ _ v u Q I rx ry ⟨_,_,rfl,rfl,?_,q.now s (by simp only [VR])⟩
   simp only [Wx,Bool.or_eq_true,Bool.and_eq_true,decide_eq_true_eq] at hz
   exact hz
  ·cases e
 ·split at e
  ·rename_i xs n hz
   cases e
   have ra':=ra
   simp only [VR] at ra rb
   subst rb
   obtain ⟨p,vs,rfl,h1,h2⟩:=ra
   refine acK pins st σ H _ _ v u Q I rx ry ⟨p,n,vs,rfl,rfl,by rw [g.K];exact h1.sq,fun e=> ?_,hz.2.1,hz.2.2.1,by rw [← h2.length];exact hz.2.2.2,fun e=> ?_,fun p' hp=>q.tup s (h2.rep _) hp⟩
   ·subst e
    exact hz.1 (List.eq_nil_of_length_eq_zero h2.length)
   ·subst e
    have e1:(List.replicate (1:Int).toNat xs).flatten=xs:=by simp
    rw [e1] at q
    exact q.now s ra'
  ·cases e
 ·simp only [VR] at ra rb;subst ra rb
  split at e
  ·rename_i hz
   cases e
   exact op_fdiv pins st σ H _ _ v u Q I rx ry ⟨_,_,rfl,rfl,hz,q.now s (by simp only [VR])⟩
  ·cases e
 ·simp only [VR] at ra rb;subst ra rb
  split at e
  ·rename_i hz
   cases e
   exact op_mod pins st σ H _ _ v u Q I rx ry ⟨_,_,rfl,rfl,hz,q.now s (by simp only [VR])⟩
  ·cases e
 ·simp only [VR] at ra rb;subst ra rb
  split at e
  ·rename_i hz
   cases e
   exact op_pow pins st σ H _ _ v u Q I rx ry ⟨_,_,rfl,rfl,hz,q.now s (by simp only [VR])⟩
  ·cases e
 ·cases e
def al8 (G:bB) (op:CmpOp):R2:=fun x y H Q=>∃ ρ S a b z,bf G ρ H S∧VR G ρ H a x∧VR G ρ H b y∧cmpop op S a b=some z∧Q (.bl z) H
def UnL (K:PySem.W.Frag) (H:Hp) (x y:V):Prop:=∃ p q vs ws,x=.ref p∧y=.ref q∧SqL K H p vs∧SqL K H q ws∧vs.length≠ws.length
theorem agX {ρ:List Addr} {H:Hp} {S:Hs} {a b:Vl} {x y:V} {z:Bool} (s:bf G ρ H S) (ra:VR G ρ H a x) (rb:VR G ρ H b y) (e:Zq S a b=some z):z=false∧UnL G.K H x y:=by
 unfold Zq at e
 split at e
 ·rename_i xs ys e1 e2
  split at e
  ·cases e
  ·rename_i hl
   cases e
   obtain ⟨p,vs,rfl,h1,h2⟩:=lU s ra e1
   obtain ⟨q,ws,rfl,h3,h4⟩:=lU s rb e2
   exact ⟨rfl,p,q,vs,ws,rfl,rfl,.inl h1,.inl h3,by rw [← h2.length,← h4.length];exact hl⟩
 ·cases e
theorem ach {ρ:List Addr} {H:Hp} {S:Hs} {a b:Vl} {x y:V} {z:Bool} (s:bf G ρ H S) (ra:VR G ρ H a x) (rb:VR G ρ H b y) (e:oW S a b=some z):(∃ d f,Dp G.K H x d∧Dp G.K H y f∧SeqAt.shaped d=true∧SeqAt.shaped f=true∧z=PyData.eqv d f)∨(z=false∧UnL G.K H x y):=by
 unfold oW at e
 split at e
 ·rename_i d f e1 e2
  split at e
  ·rename_i hs
   cases e
   exact .inl ⟨d,f,ue s ra e1,ue s rb e2,hs.1,hs.2,rfl⟩
  ·cases e
 ·exact .inr (agX s ra rb e)
theorem acL (hu:X.A.units+64<cLine):OpR X (compareOp .Eq) (fun x y H Q=>UnL X.K H x y∧Q (.bl false) H):=by
 intro pins s σ H x y v u Q I rx ry ⟨⟨p,q,vs,ws,e1,e2,h1,h2,hl⟩,hq⟩
 subst e1 e2
 cases (show v=Value.ref p from rx)
 cases (show u=Value.ref q from ry)
 obtain ⟨us,r1,p1,_⟩:=I.list h1
 obtain ⟨ts,r2,p2,_⟩:=I.list h2
 have Z7:(us.toArray.size !=ts.toArray.size)=true:=by
  rw [List.size_toArray,List.size_toArray,← r1.length,← r2.length]
  simpa using hl
 exact SeqAt.RcAt.lists_lengths p1.isList p2.isList Z7 (by omega) _ _ _ _ ⟨.bl false,H,I,rfl,hq⟩
theorem adH (hu:X.A.units+64<cLine):OpR X (compareOp .NotEq) (fun x y H Q=>UnL X.K H x y∧Q (.bl true) H):=by
 intro pins s σ H x y v u Q I rx ry ⟨⟨p,q,vs,ws,e1,e2,h1,h2,hl⟩,hq⟩
 subst e1 e2
 cases (show v=Value.ref p from rx)
 cases (show u=Value.ref q from ry)
 obtain ⟨us,r1,p1,_⟩:=I.list h1
 obtain ⟨ts,r2,p2,_⟩:=I.list h2
 have Z7:(us.toArray.size !=ts.toArray.size)=true:=by
  rw [List.size_toArray,List.size_toArray,← r1.length,← r2.length]
  simpa using hl
 exact SeqAt.RcNeAt.lists_lengths p1.isList p2.isList Z7 (by omega) _ _ _ _ ⟨.bl true,H,I,rfl,hq⟩
theorem ahv (g:Good G k X):OpR X (compareOp .In) (fun x y H Q=>∃ ρ S a b z,bf G ρ H S∧VR G ρ H a x∧VR G ρ H b y∧lX S a b=some z∧Q (.bl z) H):=by
 intro pins st σ H x y v u Q I rx ry h
 obtain ⟨ρ,S,a,b,z,s,ra,rb,e,q⟩:=h
 unfold lX at e
 split at e
 ·rename_i z'
  split at e
  ·rename_i w
   split at e
   ·rename_i hw
    simp only [VR] at ra rb;subst ra rb;cases e
    have hc:w=⟨#[w.cps.getD 0 0]⟩:=by
     obtain ⟨c⟩:=w
     have hs:c.size=1:=hw
     congr 1
     apply Array.ext
     ·simpa using hs
     ·intro i h1 h2
      have:i=0:=by omega
      subst this
      simp [Array.getD,hs]
    refine op_in_sign pins st σ H (.str w) (.str z') v u Q I rx ry ⟨w.cps.getD 0 0,z',by rw [← hc],rfl,q⟩
   ·cases e
  ·cases e
 ·split at e
  ·rename_i ks xs ed
   obtain ⟨p,kvs,rfl,h1,h2,h3⟩:=nJ s rb ed
   obtain ⟨k',ek,rfl⟩:=Option.map_eq_some_iff.mp e
   obtain rfl:u=Value.ref p:=ry
   have hx:x=kV k':=by
    cases a<;>simp only [Vl.key] at ek<;>cases ek<;>(simp only [VR] at ra;subst ra;rfl)
   subst hx
   refine d_in g.u1 I (dgR h1) rx fun s' I'=>⟨.bl _,H,I',rfl,?_⟩
   rw [← aah h2]
   exact q
  ·split at e
   ·rename_i ys es
    split at e
    ·rename_i hf
     cases e
     rw [Bool.and_eq_true] at hf
     obtain ⟨p,vs,rfl,h1,h2⟩:=uR s rb es
     obtain ⟨f1,f2⟩:=h2.flats ra hf.2 hf.1
     refine op_in_seq pins st σ H x _ v u Q I rx ry ⟨p,vs,rfl,by rw [g.K];exact h1,ra.flat hf.1,f1,?_⟩
     rw [if_neg Bool.false_ne_true,f2]
     exact q
    ·split at e
     ·rename_i d ds e1 e2
      split at e
      ·rename_i hd
       cases e
       exact op_inD (by have:=g.room.un;omega) pins st σ H x _ v u Q I rx ry ⟨d,ds,by rw [g.K];exact ue s ra e1,by rw [g.K];exact ue s rb e2,hd.1,hd.2,q⟩
      ·cases e
     ·cases e
   ·cases e
theorem ael (g:Good G k X):OpR X (compareOp .NotIn) (fun x y H Q=>∃ ρ S a b z,bf G ρ H S∧VR G ρ H a x∧VR G ρ H b y∧lX S a b=some z∧Q (.bl (!z)) H):=by
 intro pins st σ H x y v u Q I rx ry h
 obtain ⟨ρ,S,a,b,z,s,ra,rb,e,q⟩:=h
 unfold lX at e
 split at e
 ·rename_i z'
  split at e
  ·rename_i w
   split at e
   ·rename_i hw
    simp only [VR] at ra rb;subst ra rb;cases e
    have hc:w=⟨#[w.cps.getD 0 0]⟩:=by
     obtain ⟨c⟩:=w
     have hs:c.size=1:=hw
     congr 1
     apply Array.ext
     ·simpa using hs
     ·intro i h1 h2
      have:i=0:=by omega
      subst this
      simp [Array.getD,hs]
    refine op_notIn_sign pins st σ H (.str w) (.str z') v u Q I rx ry ⟨w.cps.getD 0 0,z',by rw [← hc],rfl,q⟩
   ·cases e
  ·cases e
 ·split at e
  ·rename_i ks xs ed
   obtain ⟨p,kvs,rfl,h1,h2,h3⟩:=nJ s rb ed
   obtain ⟨k',ek,rfl⟩:=Option.map_eq_some_iff.mp e
   obtain rfl:u=Value.ref p:=ry
   have hx:x=kV k':=by
    cases a<;>simp only [Vl.key] at ek<;>cases ek<;>(simp only [VR] at ra;subst ra;rfl)
   subst hx
   refine d_notIn g.u1 I (dgR h1) rx fun s' I'=>⟨.bl _,H,I',rfl,?_⟩
   rw [← aah h2]
   exact q
  ·split at e
   ·rename_i ys es
    split at e
    ·rename_i hf
     cases e
     rw [Bool.and_eq_true] at hf
     obtain ⟨p,vs,rfl,h1,h2⟩:=uR s rb es
     obtain ⟨f1,f2⟩:=h2.flats ra hf.2 hf.1
     refine op_notIn_seq pins st σ H x _ v u Q I rx ry ⟨p,vs,rfl,by rw [g.K];exact h1,ra.flat hf.1,f1,?_⟩
     rw [if_pos rfl,f2]
     exact q
    ·split at e
     ·rename_i d ds e1 e2
      split at e
      ·rename_i hd
       cases e
       exact op_notInD (by have:=g.room.un;omega) pins st σ H x _ v u Q I rx ry ⟨d,ds,by rw [g.K];exact ue s ra e1,by rw [g.K];exact ue s rb e2,hd.1,hd.2,q⟩
      ·cases e
     ·cases e
   ·cases e
theorem VR.isN {ρ:List Addr} {H:Hp} {a:Vl} {x:V} (r:VR G ρ H a x):decide (x=V.non)=a.isNon:=by
 cases a<;>simp only [VR] at r<;>first
  | (subst r;rfl)
  | (obtain ⟨p,vs,rfl,_⟩:=r;rfl)
  | (obtain ⟨p,dx,fs,rfl,_⟩:=r;rfl)
  | (obtain ⟨p,rfl,_⟩:=r;rfl)
theorem agT {ρ:List Addr} {H:Hp} {a b:Vl} {x y:V} {z:Bool} (ra:VR G ρ H a x) (rb:VR G ρ H b y) (e:YX a b=some z):scal x y=true∧z=decide (x=y):=by
 unfold YX at e
 split at e
 all_goals first
  | (simp only [VR] at ra rb;subst ra rb;cases e;exact ⟨rfl,by simp⟩)
  | cases e
theorem aeI {P:Program} {w:World} {A:Around} {s:Shared} {ρ:List Addr} {H:Hp} {a b:Vl} {x y:V} {z:Bool} {v u:Value} (ra:VR G ρ H a x) (rb:VR G ρ H b y) (e:YX a b=some z) (rx:RelV x v) (ry:RelV y u):SeqAt.EqP P w A s v u z:=by
 unfold YX at e
 split at e
 ·simp only [VR] at ra rb;subst ra rb;cases e
  obtain ⟨t,rfl⟩:=rx
  obtain ⟨t',rfl⟩:=ry
  exact (SeqAt.EqAt.int_int _ t _ t').eqP
 ·simp only [VR] at ra rb;subst ra rb;cases e
  cases rx;cases ry
  exact (SeqAt.EqAt.bool_bool _ _).eqP
 ·simp only [VR] at ra rb;subst ra rb;cases e
  obtain ⟨t,rfl⟩:=rx
  obtain ⟨t',rfl⟩:=ry
  exact (SeqAt.EqAt.str_str _ t _ t').eqP
 ·cases e
theorem V8:∀ {ks:List Key} {xs:List Vl} {kvs:List (Key × V)} {k:Key} {ρ:List Addr} {H:Hp},kvs.map (·.1)=ks→au G ρ H xs (kvs.map (·.2))→cD ks xs k=none→valV kvs k=none
 | [],_,[],_,_,_,_,_,_=>rfl
 | [],_,_::_,_,_,_,h,_,_=>by simp at h
 | _::_,_,[],_,_,_,h,_,_=>by simp at h
 | n::ns,[],_::_,_,_,_,_,h,_=>by simp [au] at h
 | n::ns,y::xs,(m,v)::fs,f,ρ,H,h,k,e=>by
  simp only [List.map_cons,List.cons.injEq] at h
  obtain ⟨rfl,h⟩:=h
  simp only [List.map_cons,au] at k
  obtain ⟨v',r,e1,k1,k2⟩:=k
  cases e1
  simp only [cD] at e
  by_cases q:m=f
  ·rw [if_pos q] at e;cases e
  ·rw [if_neg q] at e
   rw [valV_neg (p:=(m,v)) q]
   exact V8 h k2 e
theorem Rg {P:Program} {w:World} {A:Around} {s:Shared} {ρ:List Addr} {H:Hp} {S:Hs} {zP:List Key} {xs':List Vl} {ls:List (Key × V)} {vb:List (Key × Value)} (hk:ls.map (·.1)=zP) (hv:au G ρ H xs' (ls.map (·.2))) (rb:KV ls vb) :
  ∀ (ks:List Key) (xs:List Vl) (kvs:List (Key × V)) (va:List (Key × Value)) (z:Bool),kvs.map (·.1)=ks→au G ρ H xs (kvs.map (·.2))→KV kvs va→hitsD S ks xs zP xs'=some z→PySem.W.KeqHitsP P w A s vb va z
 | [],_,[],va,z,_,_,ra,e=>by
  cases ra
  simp only [hitsD,Option.some.injEq] at e
  subst e
  exact .nil
 | [],_,_::_,_,_,h,_,_,_=>by simp at h
 | _::_,_,[],_,_,h,_,_,_=>by simp at h
 | n::ns,[],_::_,_,_,_,h,_,_=>by simp [au] at h
 | n::ns,y::xs,(m,v)::fs,va,z,h,k,ra,e=>by
  simp only [List.map_cons,List.cons.injEq] at h
  obtain ⟨rfl,h⟩:=h
  simp only [List.map_cons,au] at k
  obtain ⟨v',r,e1,k1,k2⟩:=k
  cases e1
  unfold KV at ra
  cases ra with
  | @cons _ q _ qs hq rq=>
   obtain ⟨q1,q2⟩:=q
   obtain ⟨e0,rv⟩:=hq
   simp only at e0 rv
   subst e0
   simp only [hitsD] at e
   split at e
   ·rename_i el
    cases e
    have e2:=V8 hk hv el
    have e3:=rb.val m
    rw [e2] at e3
    refine .miss ?_
    cases ev:valueAt vb m with
    | none=>rfl
    | some u=>rw [ev] at e3;exact e3.elim
   ·rename_i wv el
    split at e
    ·rename_i b eb
     obtain ⟨b',e4,rfl⟩:=Option.map_eq_some_iff.mp e
     obtain ⟨wu,e5,hw⟩:=Oi hk hv el
     have e3:RelO (some wu) (valueAt vb m):=by rw [← e5];exact rb.val m
     obtain ⟨u,hu,ru⟩:=e3.some_of
     exact .hit hu (aeI k1 hw eb rv ru) (Rg (S:=S) hk hv rb ns xs fs qs b' h k2 rq e4)
    ·cases e
theorem ag5 (g:Good G k X):OpR X (compareOp .Eq) (fun x y H Q=>∃ ρ S a b z,bf G ρ H S∧VR G ρ H a x∧VR G ρ H b y∧vO S a b=some z∧Q (.bl z) H):=by
 intro pins s σ H x y v u Q I rx ry ⟨ρ,S,a,b,z,s0,ra,rb,e,q⟩
 unfold vO at e
 split at e
 ·rename_i ks vs zP vs' e1 e2
  obtain ⟨p,kvs,rfl,h1,h2,h3⟩:=nJ s0 ra e1
  obtain ⟨p',ls,rfl,h4,h5,h6⟩:=nJ s0 rb e2
  cases (show v=Value.ref p from rx)
  cases (show u=Value.ref p' from ry)
  obtain ⟨_,ya,va,r1,da⟩:=dk_rd I.hok h1
  obtain ⟨_,yb,vb,r2,db⟩:=dk_rd I.hok h4
  have l1:va.length=ks.length:=by rw [← r1.length,← h2,List.length_map]
  have l2:vb.length=zP.length:=by rw [← r2.length,← h5,List.length_map]
  split at e
  ·rename_i hl
   refine PySem.W.rcP_dicts (knd:=mixKind X.prog X.w) (r:=z) ya yb da db (by have:=g.u64;omega) (fun _=>Rg (S:=S) h5 h6 r2 ks vs kvs va z h2 h3 r1 e) X.xe _ ?_
   rw [show (va.length==vb.length&&z)=z by rw [l1,l2,hl];simp]
   exact ⟨.bl z,H,I,rfl,q⟩
  ·rename_i hl
   cases e
   refine PySem.W.rcP_dicts (knd:=mixKind X.prog X.w) (r:=true) ya yb da db (by have:=g.u64;omega) (fun z=>absurd z (by rw [l1,l2];exact hl)) X.xe _ ?_
   rw [show (va.length==vb.length&&true)=false by rw [l1,l2];simp [hl]]
   exact ⟨.bl false,H,I,rfl,q⟩
 ·cases e
theorem ahf (g:Good G k X):OpR X (compareOp .NotEq) (fun x y H Q=>∃ ρ S a b z,bf G ρ H S∧VR G ρ H a x∧VR G ρ H b y∧Vs S a b=some z∧Q (.bl z) H):=by
 intro pins s σ H x y v u Q I rx ry ⟨ρ,S,a,b,z,s0,ra,rb,e,q⟩
 unfold Vs at e
 split at e
 ·rename_i ks vs vs' e1 e2
  obtain ⟨p,kvs,rfl,h1,h2,h3⟩:=nJ s0 ra e1
  obtain ⟨p',ls,rfl,h4,h5,h6⟩:=nJ s0 rb e2
  cases (show v=Value.ref p from rx)
  cases (show u=Value.ref p' from ry)
  obtain ⟨_,ya,va,r1,da⟩:=dk_rd I.hok h1
  obtain ⟨_,yb,vb,r2,db⟩:=dk_rd I.hok h4
  have l1:va.length=ks.length:=by rw [← r1.length,← h2,List.length_map]
  have l2:vb.length=0:=by rw [← r2.length,← List.length_map (as:=ls) (·.1),h5];rfl
  cases e
  refine PySem.W.keq_ne (knd:=mixKind X.prog X.w) (r:=true) ya yb da db (by have:=g.u64;omega) (fun hl=> ?_) ?_
  ·have:va=[]:=List.eq_nil_of_length_eq_zero (by omega)
   rw [this];exact .nil
  ·have:(!(va.length==vb.length&&true))= !ks.isEmpty:=by
    rw [l1,l2]
    cases ks<;>simp
   rw [this]
   exact ⟨.bl _,H,I,rfl,q⟩
 ·cases e
theorem Xb {ρ:List Addr} {H:Hp} {S:Hs} {a b:Vl} {x y:V} {z:Bool} (ra:VR G ρ H a x) (rb:VR G ρ H b y) (e:zq S a b=some z):(scal x y=true∧z=decide (x=y))∨vO S a b=some z∨(vO S a b=none∧oW S a b=some z):=by
 unfold zq at e
 split at e
 ·rename_i c ec
  cases e
  exact .inl (agT ra rb ec)
 ·split at e
  ·rename_i c ec
   cases e
   exact .inr (.inl ec)
  ·rename_i ec
   exact .inr (.inr ⟨ec,e⟩)
theorem zW (g:Good G k X) (op:CmpOp):OpR X (compareOp op) (al8 G op):=by
 intro pins st σ H x y v u Q I rx ry h
 obtain ⟨ρ,S,a,b,z,s,ra,rb,e,q⟩:=h
 cases op with
 | Eq=>
  rcases Xb ra rb (show zq S a b=some z from e) with ⟨h1,rfl⟩ | e1 | ⟨_,e1⟩
  ·exact op_eq pins st σ H _ _ v u Q I rx ry ⟨h1,q⟩
  ·exact ag5 g pins st σ H _ _ v u Q I rx ry ⟨ρ,S,a,b,z,s,ra,rb,e1,q⟩
  ·rcases ach s ra rb e1 with ⟨d,f,h1,h2,h3,h4,rfl⟩ | ⟨rfl,hn⟩
   ·exact op_eqD g.u64 pins st σ H _ _ v u Q I rx ry ⟨d,f,by rw [g.K];exact h1,by rw [g.K];exact h2,h3,h4,q⟩
   ·exact acL g.u64 pins st σ H _ _ v u Q I rx ry ⟨by rw [g.K];exact hn,q⟩
 | NotEq=>
  have e0:(if (vO S a b).isSome then Vs S a b else (zq S a b).map not)=some z:=e
  split at e0
  ·exact ahf g pins st σ H x y v u Q I rx ry ⟨ρ,S,a,b,z,s,ra,rb,e0,q⟩
  rename_i nd
  obtain ⟨z',e1,rfl⟩:=Option.map_eq_some_iff.mp e0
  rcases Xb ra rb e1 with ⟨h1,rfl⟩ | e1 | ⟨_,e1⟩
  ·exact op_ne pins st σ H _ _ v u Q I rx ry ⟨h1,q⟩
  ·rw [e1] at nd;exact absurd rfl nd
  ·rcases ach s ra rb e1 with ⟨d,f,h1,h2,h3,h4,rfl⟩ | ⟨rfl,hn⟩
   ·exact op_neD g.u64 pins st σ H _ _ v u Q I rx ry ⟨d,f,by rw [g.K];exact h1,by rw [g.K];exact h2,h3,h4,q⟩
   ·exact adH g.u64 pins st σ H _ _ v u Q I rx ry ⟨by rw [g.K];exact hn,q⟩
 | Lt=>
  simp only [cmpop] at e
  split at e
  ·simp only [VR] at ra rb;subst ra rb;cases e
   exact op_lt pins st σ H _ _ v u Q I rx ry ⟨_,_,rfl,rfl,q⟩
  ·cases e
 | LtE=>
  simp only [cmpop] at e
  split at e
  ·simp only [VR] at ra rb;subst ra rb;cases e
   exact op_le pins st σ H _ _ v u Q I rx ry ⟨_,_,rfl,rfl,q⟩
  ·cases e
 | Gt=>
  simp only [cmpop] at e
  split at e
  ·simp only [VR] at ra rb;subst ra rb;cases e
   exact op_gt pins st σ H _ _ v u Q I rx ry ⟨_,_,rfl,rfl,q⟩
  ·cases e
 | GtE=>
  simp only [cmpop] at e
  split at e
  ·simp only [VR] at ra rb;subst ra rb;cases e
   exact op_ge pins st σ H _ _ v u Q I rx ry ⟨_,_,rfl,rfl,q⟩
  ·cases e
 | Is=>
  simp only [cmpop] at e
  split at e
  ·simp only [VR] at rb;subst rb;cases e
   refine op_isN pins st σ H _ _ v u Q I rx ry ⟨rfl,?_⟩
   rw [ra.isN];exact q
  ·split at e
   ·simp only [VR] at ra rb;subst ra rb;cases e
    exact op_isBl pins st σ H _ _ v u Q I rx ry ⟨_,_,rfl,rfl,q⟩
   ·cases e
  ·cases e
 | IsNot=>
  simp only [cmpop] at e
  split at e
  ·simp only [VR] at rb;subst rb;cases e
   refine op_notN pins st σ H _ _ v u Q I rx ry ⟨rfl,?_⟩
   rw [ra.isN];exact q
  ·split at e
   ·simp only [VR] at ra rb;subst ra rb;cases e
    exact op_notBl pins st σ H _ _ v u Q I rx ry ⟨_,_,rfl,rfl,q⟩
   ·cases e
  ·cases e
 | In=>exact ahv g pins st σ H x y v u Q I rx ry ⟨ρ,S,a,b,z,s,ra,rb,e,q⟩
 | NotIn=>
  obtain ⟨z',e1,rfl⟩:=Option.map_eq_some_iff.mp (show (lX S a b).map not=some z from e)
  exact ael g pins st σ H x y v u Q I rx ry ⟨ρ,S,a,b,z',s,ra,rb,e1,q⟩
end
section
variable {G:bB} {k:Nat} {X:Cx} {M:aF} {W:WX} {a b c:Expr} {ca cb cc:E} {pos:Pos}
theorem aeD {i:Nat} {x:Str} (hN:X.N[i]? =some x) (hv:Vis X.env.scope x) (hd:(x==("__debug__":Str))=false) (Ba:(x==("__classdict__":Str))=false):PE X (.Name x pos) (tE G M W (.var i)):=
 (pe_var hN hv hd Ba).imp fun σ H Q ⟨ρ,η,S,s,r,h⟩=>by
  have h':PR G W σ ρ H (match η[i]? with | some (some x)=>Res.ok x S | _=>.bad) (okV G Q):=h
  split at h'
  ·rename_i x e
   obtain ⟨v,e1,e2⟩:=r.at_ i x e
   exact ⟨v,e1,(h'.here s) v e2⟩
  ·exact h'.elim
theorem yR {e:Expr} {x:Vl} {v:V} (he:PE X e (tC v)) (hx:∀ ρ H,VR G ρ H x v):PE X e (tE G M W (.cst x)):=
 he.imp fun σ H Q ⟨ρ,η,S,s,r,h⟩=>(PR.here h s) v (hx ρ H)
theorem aD (g:Good G k X) (op:Operator) (ha:PE X a (tE G M W ca)) (hb:PE X b (tE G M W cb)):PE X (.BinOp a op b pos) (tE G M W (.bin op ca cb)):=
 (pe_op (ag4 g op) ha hb).imp fun σ H Q ⟨ρ,η,S,s,r,h⟩=>⟨ρ,η,S,s,r,(PR.bind h).mono fun ρ1 H1 x S1 bU s1 h1 v hv=>⟨ρ1,η,S1,s1,r.step bU,(PR.bind h1).mono fun ρ2 H2 y S2 st2 s2 h2 w hw=>by
  obtain ⟨z,e,h3⟩:=PR.gY h2
  exact ⟨ρ2,S2,x,y,z,s2,hv.step st2,hw,e,h3⟩⟩⟩
theorem ac8 (g:Good G k X) (o1 o2:CmpOp) (ha:PE X a (tE G M W ca)) (hb:PE X b (tE G M W cb)) (hc:PE X c (tE G M W cc)) (hm:lastMarks [o1,o2] [b,c]=false):PE X (.Compare a [o1,o2] [b,c] pos) (tE G M W (.Rq o1 o2 ca cb cc)):=
 (pe_chain (zW g o1) (zW g o2) ha hb hc hm).imp fun σ H Q ⟨ρ,η,S,s,r,h⟩=>⟨ρ,η,S,s,r,(PR.bind h).mono fun ρ1 H1 x S1 bU s1 h1 v hv=>⟨ρ1,η,S1,s1,r.step bU,(PR.bind h1).mono fun ρ2 H2 y S2 st2 s2 h2 w hw=>by
  obtain ⟨z,e,h3⟩:=PR.gY (PR.bind h2)
  have h4:=h3.here s2
  refine ⟨ρ2,S2,x,y,z,s2,hv.step st2,hw,e,z,rfl,?_⟩
  cases z with
  | false=>
   rw [if_neg Bool.false_ne_true] at h4 ⊢
   exact (PR.here h4 s2) _ (by simp only [VR])
  | true=>
   rw [if_pos rfl] at h4 ⊢
   refine ⟨ρ2,η,S2,s2,(r.step bU).step st2,(PR.bind h4).mono fun ρ3 H3 z S3 lN s3 h5 w' hw'=> ?_⟩
   obtain ⟨z',e',h6⟩:=PR.gY (PR.bind h5)
   have h7:=PR.here (h6.here s3) s3
   exact ⟨ρ3,S3,y,z,z',s3,hw.step lN,hw',e',h7 _ (by simp only [VR])⟩⟩⟩
theorem pJ {rest:List Expr} (ha:PE X a (tE G M W ca)) (hb:PE X (.BoolOp .And (b::rest) pos) (tE G M W cb)):PE X (.BoolOp .And (a::b::rest) pos) (tE G M W (.band ca cb)):=
 (pe_and ha hb).imp fun σ H Q ⟨ρ,η,S,s,r,h⟩=>⟨ρ,η,S,s,r,(PR.bind h).mono fun ρ1 H1 x S1 bU s1 h1 v hv=>by
  cases x with
  | bl d=>
   simp only [VR] at hv;subst hv
   refine ⟨d,rfl,?_⟩
   cases d with
   | true=>rw [if_pos rfl];exact ⟨ρ1,η,S1,s1,r.step bU,h1⟩
   | false=>rw [if_neg Bool.false_ne_true];exact (PR.here h1 s1) _ (by simp only [VR])
  | _=>exact h1.elim⟩
theorem Mv (ha:PE X a (tE G M W ca)):PE X (.UnaryOp .USub a pos) (tE G M W (.neg ca)):=
 (pe_un un_neg ha).imp fun σ H Q ⟨ρ,η,S,s,r,h⟩=>⟨ρ,η,S,s,r,(PR.bind h).mono fun ρ1 H1 x S1 bU s1 h1 v hv=>by
  cases x with
  | int d=>
   simp only [VR] at hv;subst hv
   exact ⟨d,rfl,(PR.here h1 s1) _ (by simp only [VR])⟩
  | _=>exact h1.elim⟩
def okB (Q:Bool→Hp→Prop):List Addr→Hp→Vl→Hs→Prop:=fun _ H' x _=>∃ d,x=.bl d∧Q d H'
def tQ (G:bB) (M:aF) (W:WX) (c:E):TT:=fun σ H Q=>∃ ρ η S,bf G ρ H S∧ER G ρ H η σ∧PR G W σ ρ H (ev M c η S) (okB Q)
theorem aeE {e:Expr} (h:PE X e (tE G M W ca)) (he:∀ whole,isTrue e X.env whole=(do let v ← whole;standAt e.pos;holding [v] (truthy v))):PT X e (tQ G M W ca):=
 (pt_val h he).imp fun σ H Q ⟨ρ,η,S,s,r,h⟩=>⟨ρ,η,S,s,r,h.mono fun ρ1 H1 x S1 bU s1 ⟨d,e,q⟩ v hv=>by
  subst e
  simp only [VR] at hv
  exact ⟨d,hv,q⟩⟩
theorem yz (ha:PT X a (tQ G M W ca)):PW X (.BoolOp .And [a] pos) (tQ G M W ca):=pw_and1 ha
theorem qF (ha:PT X a (tQ G M W ca)):PW X (.BoolOp .Or [a] pos) (tQ G M W ca):=pw_or1 ha
theorem _root_.L2.PW.imp {X:Cx} {e:Expr} {t t':TT} (h:PW X e t) (k:∀ σ H Q,t' σ H Q→t σ H Q):PW X e t':=⟨fun wh pins s σ H Q I q=>h.run wh pins s σ H Q I (k σ H Q q)⟩
theorem Dg {rest:List Expr} (ha:PT X a (tQ G M W ca)) (hb:PW X (.BoolOp .And (b::rest) pos) (tQ G M W cb)):PW X (.BoolOp .And (a::b::rest) pos) (tQ G M W (.band ca cb)):=
 (pw_and ha hb).imp fun σ H Q ⟨ρ,η,S,s,r,h⟩=>⟨ρ,η,S,s,r,(PR.bind h).mono fun ρ1 H1 x S1 bU s1 h1=>by
  cases x with
  | bl d=>
   refine ⟨d,rfl,?_⟩
   cases d with
   | true=>rw [if_pos rfl];exact ⟨ρ1,η,S1,s1,r.step bU,h1⟩
   | false=>
    rw [if_neg Bool.false_ne_true]
    obtain ⟨d',e',q⟩:=PR.here h1 s1
    cases e';exact q
  | _=>exact h1.elim⟩
theorem wZ {rest:List Expr} (ha:PT X a (tQ G M W ca)) (hb:PW X (.BoolOp .Or (b::rest) pos) (tQ G M W cb)):PW X (.BoolOp .Or (a::b::rest) pos) (tQ G M W (.bor ca cb)):=
 (pw_or ha hb).imp fun σ H Q ⟨ρ,η,S,s,r,h⟩=>⟨ρ,η,S,s,r,(PR.bind h).mono fun ρ1 H1 x S1 bU s1 h1=>by
  cases x with
  | bl d=>
   refine ⟨d,rfl,?_⟩
   cases d with
   | true=>
    rw [if_pos rfl]
    obtain ⟨d',e',q⟩:=PR.here h1 s1
    cases e';exact q
   | false=>rw [if_neg Bool.false_ne_true];exact ⟨ρ1,η,S1,s1,r.step bU,h1⟩
  | _=>exact h1.elim⟩
theorem kW (ha:PT X a (tQ G M W ca)):PT X (.UnaryOp .Not a pos) (tQ G M W (.pY ca)):=
 (pt_not ha).imp fun σ H Q ⟨ρ,η,S,s,r,h⟩=>⟨ρ,η,S,s,r,(PR.bind h).mono fun ρ1 H1 x S1 bU s1 h1=>by
  cases x with
  | bl d=>
   obtain ⟨d',e',q⟩:=PR.here h1 s1
   cases e';exact ⟨d,rfl,q⟩
  | _=>exact h1.elim⟩
theorem ac9 (g:Good G k X) (o1 o2:CmpOp) (ha:PE X a (tE G M W ca)) (hb:PE X b (tE G M W cb)) (hc:PE X c (tE G M W cc)) (hm:lastMarks [o1,o2] [b,c]=false):PT X (.Compare a [o1,o2] [b,c] pos) (tQ G M W (.Rq o1 o2 ca cb cc)):=
 (pt_chain (zW g o1) (zW g o2) ha hb hc hm).imp fun σ H Q ⟨ρ,η,S,s,r,h⟩=>⟨ρ,η,S,s,r,(PR.bind h).mono fun ρ1 H1 x S1 bU s1 h1 v hv=>⟨ρ1,η,S1,s1,r.step bU,(PR.bind h1).mono fun ρ2 H2 y S2 st2 s2 h2 w hw=>by
  obtain ⟨z,e,h3⟩:=PR.gY (PR.bind h2)
  have h4:=h3.here s2
  refine ⟨ρ2,S2,x,y,z,s2,hv.step st2,hw,e,z,rfl,?_⟩
  cases z with
  | false=>
   rw [if_neg Bool.false_ne_true] at h4 ⊢
   obtain ⟨d',e',q⟩:=PR.here h4 s2
   cases e';exact ⟨false,rfl,q⟩
  | true=>
   rw [if_pos rfl] at h4 ⊢
   refine ⟨ρ2,η,S2,s2,(r.step bU).step st2,(PR.bind h4).mono fun ρ3 H3 z S3 lN s3 h5 w' hw'=> ?_⟩
   obtain ⟨z',e',h6⟩:=PR.gY (PR.bind h5)
   obtain ⟨d',e2,q⟩:=PR.here (h6.here s3) s3
   cases e2
   exact ⟨ρ3,S3,y,z,z',s3,hw.step lN,hw',e',z',rfl,q⟩⟩⟩
theorem lD {t:Expr} {ct:E} (ht:PT X t (tQ G M W ct)) (ha:PE X a (tE G M W ca)) (hb:PE X b (tE G M W cb)):PE X (.IfExp t a b pos) (tE G M W (.ite ct ca cb)):=
 (pe_ifExp ht ha hb).imp fun σ H Q ⟨ρ,η,S,s,r,h⟩=>⟨ρ,η,S,s,r,(PR.bind h).mono fun ρ1 H1 x S1 bU s1 h1=>by
  cases x with
  | bl d=>
   refine ⟨d,rfl,?_⟩
   cases d with
   | true=>rw [if_pos rfl];exact ⟨ρ1,η,S1,s1,r.step bU,h1⟩
   | false=>rw [if_neg Bool.false_ne_true];exact ⟨ρ1,η,S1,s1,r.step bU,h1⟩
  | _=>exact h1.elim⟩
theorem gH:PA X [] (tA G M W .nil):=pa_nil.imp fun σ H Q ⟨ρ,η,S,s,r,h⟩=>(PR.here h s) [] au.nil
theorem uA {es:List Expr} {cU:Es} (ha:PE X a (tE G M W ca)) (hr:PA X es (tA G M W cU)) (hs:starEach (a::es) X.env=(false,eval a X.env)::starEach es X.env):PA X (a::es) (tA G M W (.cons ca cU)):=
 (pa_cons ha hr hs).imp fun σ H Q ⟨ρ,η,S,s,r,h⟩=>⟨ρ,η,S,s,r,(PR.bind h).mono fun ρ1 H1 x S1 bU s1 h1 v hv=>⟨ρ1,η,S1,s1,r.step bU,(PR.bind h1).mono fun ρ2 H2 xs S2 st2 s2 h2 vs xO=>(PR.here h2 s2) _ (au.cons (hv.step st2) xO)⟩⟩
theorem d8 {es:List Expr} {cU:Es} {x1:Nat} (h:PA X es (tA G M W cU)):PE X (.Tuple es x1 pos) (tE G M W (.tup cU)):=
 (pe_tup h).imp fun σ H Q ⟨ρ,η,S,s,r,h⟩=>⟨ρ,η,S,s,r,(PR.bind h).mono fun ρ1 H1 xs S1 bU s1 h1 vs xO=>by
  split at h1
  ·rename_i hz
   refine ⟨by rw [← xO.length];exact hz,fun p hp=> ?_⟩
   exact Jh.tup (ρ:=ρ1) (fun ρ' H' st s'=>PR.here (h1.step st) s') s1 xO hp
  ·exact h1.elim⟩
theorem oJ (g:Good G k X) {f:Str} (hC:∀ c,Cls X.K (G.cl c)) (hf:∀ c,NoAttr X.K (G.cl c) f) (ha:PE X a (tE G M W ca)) (hb:attributeBase a f X.env (eval a X.env)=eval a X.env):PE X (.Attribute a f pos) (tE G M W (.fld ca f)):=
 (pe_fld ha hb).imp fun σ H Q ⟨ρ,η,S,s,r,h⟩=>⟨ρ,η,S,s,r,(PR.bind h).mono fun ρ1 H1 x S1 bU s1 h1 v hv=>by
  split at h1
  ·rename_i c ns vs e
   obtain ⟨p,dx,fs,rfl,h2,h3,h4⟩:=Mq s1 hv e
   obtain ⟨y,e1,h5⟩:=PR.gY h1
   obtain ⟨w,e2,hw⟩:=Wk h3 h4 e1
   exact ⟨p,_,dx,fs,w,rfl,h2,hC c,hf c,e2,(PR.here h5 s1) w hw⟩
  ·exact h1.elim⟩
end
end Oz
set_option autoImplicit false
namespace Oz
open PySem L2 PyProof.Rows
section
variable {G:bB} {k:Nat} {X:Cx} {ρ:List Addr} {H:Hp} {S:Hs}
theorem au.atI {xs:List Vl} {vs:List V} {i:Int} {x:Vl} (h:au G ρ H xs vs) (e:atI xs i=some x):∃ v,L2.atI vs i=some v∧VR G ρ H x v:=by
 unfold L2.atI at e ⊢
 rw [← h.length]
 cases q:ixN xs.length i with
 | none=>rw [q] at e;cases e
 | some j=>
  rw [q] at e
  exact h.get e
def al3 (G:bB):R2:=fun x y H Q=>∃ ρ S a b z,bf G ρ H S∧VR G ρ H a x∧VR G ρ H b y∧dM S a b=some z∧Jh G ρ H S z Q
theorem aaz (g:Good G k X):IxR X (al3 G):=by
 intro ve se pins st σ H x y v u Q I rx ry h hs
 obtain ⟨ρ,S,a,b,z,s,ra,rb,e,q⟩:=h
 unfold dM at e
 split at e
 ·simp only [VR] at ra rb;subst ra rb
  split at e
  ·rename_i hz
   obtain ⟨c,ec,rfl⟩:=Option.map_eq_some_iff.mp e
   exact ix_str ve se pins st σ H _ _ v u Q I rx ry ⟨_,_,c,rfl,rfl,hz,ec,q.now s (by simp only [VR])⟩ hs
  ·cases e
 ·split at e
  ·rename_i ks xs ed
   obtain ⟨k',ek,el⟩:=Option.bind_eq_some_iff.mp e
   obtain ⟨p,kvs,rfl,h1,h2,h3⟩:=nJ s ra ed
   obtain ⟨w,e1,e2⟩:=Oi h2 h3 el
   obtain rfl:v=Value.ref p:=rx
   have hy:y=kV k':=by
    cases b<;>simp only [Vl.key] at ek<;>cases ek<;>(simp only [VR] at rb;subst rb;rfl)
   subst hy
   have gd:DGet H p (kV k') (some w):=by rw [← e1];exact dgR h1
   exact tail_any (dict_typeIs I gd) slot_dict_getitem.lookup (d_getItem g.u1 I gd ry fun w' s' I' r'=>⟨w,H,I',r',q.now s e2⟩) hs
  ·split at e
   ·rename_i i ys _ es _
    obtain ⟨p,vs,rfl,h1,h2⟩:=uR s ra es
    simp only [VR] at rb;subst rb
    obtain ⟨w,e1,e2⟩:=h2.atI e
    rcases h1 with h1 | h1
    ·exact ix_list ve se pins st σ H _ _ v u Q I rx ry ⟨p,vs,_,w,rfl,rfl,by rw [g.K];exact h1,e1,q.now s e2⟩ hs
    ·exact ix_tup ve se pins st σ H _ _ v u Q I rx ry ⟨p,vs,_,w,rfl,rfl,by rw [g.K];exact h1,e1,q.now s e2⟩ hs
   ·cases e
end
section
variable {G:bB} {k:Nat} {X:Cx} {M:aF} {W:WX} {a b c:Expr} {ca cb cc:E} {pos:Pos}
theorem acW (g:Good G k X) (ha:PE X a (tE G M W ca)) (hb:PE X b (tE G M W cb)) (hs:PlainIx b):PE X (.Subscript a b pos) (tE G M W (.idx ca cb)):=
 (pe_ix (aaz g) ha hb hs).imp fun σ H Q ⟨ρ,η,S,s,r,h⟩=>⟨ρ,η,S,s,r,(PR.bind h).mono fun ρ1 H1 x S1 bU s1 h1 v hv=>⟨ρ1,η,S1,s1,r.step bU,(PR.bind h1).mono fun ρ2 H2 y S2 st2 s2 h2 w hw=>by
  obtain ⟨z,e,h3⟩:=PR.gY h2
  exact ⟨ρ2,S2,x,y,z,s2,hv.step st2,hw,e,h3⟩⟩⟩
def tO (G:bB) (M:aF) (W:WX) (c:Oe):TO:=fun σ H Q=>∃ ρ η S,bf G ρ H S∧ER G ρ H η σ∧PR G W σ ρ H (YT M c η S) (fun _ H' o _=>Q o H')
theorem _root_.L2.PO.imp {X:Cx} {e:Option Expr} {t t':TO} (h:PO X e t) (k:∀ σ H Q,t' σ H Q→t σ H Q):PO X e t':=⟨fun pins s σ H Q I q=>h.run pins s σ H Q I (k σ H Q q)⟩
theorem gR:PO X none (tO G M W .none):=po_none.imp fun σ H Q ⟨ρ,η,S,s,r,h⟩=>PR.here h s
theorem gU (h:PE X a (tE G M W ca)):PO X (some a) (tO G M W (.some ca)):=
 (po_some h).imp fun σ H Q ⟨ρ,η,S,s,r,h⟩=>⟨ρ,η,S,s,r,(PR.bind h).mono fun ρ1 H1 x S1 bU s1 h1 v hv=>by
  cases x with
  | int i=>simp only [VR] at hv;subst hv;exact ⟨i,rfl,PR.here h1 s1⟩
  | _=>exact h1.elim⟩
theorem au.cut {ρ:List Addr} {H:Hp} {xs:List Vl} {vs:List V} (lo hi:Option Int) (h:au G ρ H xs vs):au G ρ H (tH xs lo hi) (cutV vs lo hi):=by
 unfold tH cutV
 rw [← h.length]
 exact (h.drop _).take _
def ale (G:bB):V→Option Int→Option Int→Hp→VK→Prop:=fun x lo hi H Q=>∃ ρ S a z,bf G ρ H S∧VR G ρ H a x∧Dy a lo hi=some z∧Jh G ρ H S z Q
theorem agC (g:Good G k X):SlR X (ale G):=by
 intro pins st σ H x v vl vu lo hi sl Q I rx hs pl pu h
 obtain ⟨ρ,S,a,z,s,ra,e,q⟩:=h
 unfold Dy at e
 split at e
 ·simp only [VR] at ra;subst ra
  split at e
  ·rename_i hz
   cases e
   exact sl_str pins st σ H _ v vl vu lo hi sl Q I rx hs pl pu ⟨_,rfl,hz,q.now s (by simp only [VR])⟩
  ·cases e
 ·rename_i xs
  cases e
  have ra':=ra
  simp only [VR] at ra
  obtain ⟨p,vs,rfl,h1,h2⟩:=ra
  refine sl_tupA pins st σ H _ v vl vu lo hi sl Q I rx hs pl pu ⟨p,vs,rfl,by rw [g.K];exact h1.sq,fun hw=> ?_,fun _ p' hp=>q.tup s (h2.cut lo hi) hp⟩
  rw [← h2.length] at hw
  have:tH xs lo hi=xs:=by
   unfold tH
   rw [hw.1,hw.2]
   simp
  rw [this] at q
  exact q.now s ra'
 ·cases e
theorem j9 (g:Good G k X) {lo hi:Option Expr} {cl ch:Oe} {p2:Pos} (ha:PE X a (tE G M W ca)) (hl:PO X lo (tO G M W cl)) (hh:PO X hi (tO G M W ch)):PE X (.Subscript a (.Slice lo hi none p2) pos) (tE G M W (.Cz ca cl ch)):=
 (pe_slice (agC g) ha hl hh).imp fun σ H Q ⟨ρ,η,S,s,r,h⟩=>⟨ρ,η,S,s,r,(PR.bind h).mono fun ρ1 H1 x S1 bU s1 h1 v hv=>⟨ρ1,η,S1,s1,r.step bU,(PR.bind h1).mono fun ρ2 H2 l S2 st2 s2 h2=>⟨ρ2,η,S2,s2,(r.step bU).step st2,(PR.bind h2).mono fun ρ3 H3 u S3 lN s3 h3=>by
  obtain ⟨z,e,h4⟩:=PR.gY h3
  exact ⟨ρ3,S3,x,z,s3,(hv.step st2).step lN,e,h4⟩⟩⟩⟩
structure afK (G:bB) (w:World) (d:Addr) (kv:List (Str × Vl)):Prop where
 it:∃ (es:Array DictEntry) (n:Nat),KDict G.K w d es n∧Paired (fun (e:DictEntry) (p:Str × Vl)=>(∃ t,e.key=.str p.1 t)∧∃ v,RelV v e.val∧∀ ρ H,VR G ρ H p.2 v) es.toList kv
theorem VD {G:bB} {z:Str}:∀ {es:List DictEntry} {kv:List (Str × Vl)},Paired (fun (e:DictEntry) (p:Str × Vl)=>(∃ t,e.key=.str p.1 t)∧∃ v,RelV v e.val∧∀ ρ H,VR G ρ H p.2 v) es kv→
  (es.any (·.refKey))=false∧((kv.lookup z=none∧es.find? (·.key.isStr z)=none)∨∃ e x v,es.find? (·.key.isStr z)=some e∧kv.lookup z=some x∧RelV v e.val∧∀ ρ H,VR G ρ H x v)
 | _,_,.nil=>⟨rfl,.inl ⟨rfl,rfl⟩⟩
 | e::es,(y,x)::kv,.cons ⟨⟨t,e1⟩,v,e2,e3⟩ r=>by
  obtain ⟨i1,i2⟩:=VD (z:=z) r
  refine ⟨?_,?_⟩
  ·rw [List.any_cons,i1]
   have:e.refKey=false:=by
    unfold DictEntry.refKey
    rw [e1]
   rw [this];rfl
  ·have hk:e.key.isStr z=(y==z):=by rw [e1];rfl
   rw [List.find?_cons,hk,List.lookup_cons]
   by_cases q:y=z
   ·subst q
    simp only [beq_self_eq_true]
    exact .inr ⟨e,x,v,rfl,rfl,e2,e3⟩
   ·have q1:(y==z)=false:=beq_eq_false_iff_ne.mpr q
    have q2:(z==y)=false:=beq_eq_false_iff_ne.mpr (Ne.symm q)
    rw [q1,q2]
    exact i2
theorem afK.look {w:World} {d:Addr} {kv:List (Str × Vl)} (h:afK G w d kv) (z:Str):∃ es n,KDict G.K w d es n∧((kv.lookup z=none∧PySem.W.nsIn G.K d z=some none)∨∃ x v u,kv.lookup z=some x∧PySem.W.nsIn G.K d z=some (some u)∧RelV v u∧∀ ρ H,VR G ρ H x v):=by
 obtain ⟨es,n,D,P⟩:=h.it
 refine ⟨es,n,D,?_⟩
 obtain ⟨i1,i2⟩:=VD (z:=z) P
 unfold PySem.W.nsIn
 rw [D.at_]
 rcases i2 with ⟨e1,e2⟩ | ⟨e,x,v,e1,e2,e3,e4⟩
 ·refine .inl ⟨e1,?_⟩
  show (match es.toList.find? (·.key.isStr z) with | some e=>some (some e.val) | none=>if es.toList.any (·.refKey) then none else some none)=some none
  rw [e2,i1];rfl
 ·refine .inr ⟨x,v,e.val,e2,?_,e3,e4⟩
  show (match es.toList.find? (·.key.isStr z) with | some e=>some (some e.val) | none=>if es.toList.any (·.refKey) then none else some none)=some (some e.val)
  rw [e1]
theorem OR.inl {ρ:List Addr} {H:Hp} {o:Ob} {p:Addr} (h:OR G ρ H p o) (n:p∉ρ):VR G ρ H o.inl (.ref p):=by
 cases o with
 | lst xs=>obtain ⟨vs,h1,h2⟩:=h;show VR G ρ H (.lst xs) _;simp only [VR];exact ⟨p,vs,rfl,⟨.inl h1,n⟩,h2⟩
 | dct ks xs=>obtain ⟨kvs,h1,h2,h3⟩:=h;show VR G ρ H (.dct ks xs) _;simp only [VR];exact ⟨p,kvs,rfl,.inl h1,n,h2,h3⟩
 | ins c ns xs=>obtain ⟨dx,fs,h1,h2,h3⟩:=h;show VR G ρ H (.obj c ns xs) _;simp only [VR];exact ⟨p,dx,fs,rfl,h1,n,h2,h3⟩
 | Ac ks xs=>obtain ⟨kvs,od,h1,h2,h3⟩:=h;show VR G ρ H (.dct ks xs) _;simp only [VR];exact ⟨p,kvs,rfl,.inr ⟨od,h1⟩,n,h2,h3⟩
theorem aR {f:F} (h:PE X a (tF G M W f)):PE X a (tE G M W (.inl f)):=
 h.imp fun σ H Q ⟨ρ,η,S,s,r,h⟩=>⟨ρ,η,S,s,r,(PR.bind h).mono fun ρ1 H1 o S1 bU s1 h1 p hp n ho _=>(PR.here h1 s1) _ (ho.inl n)⟩
theorem Step.one {ρ ρ1:List Addr} {H H1:Hp} (st:Step ρ H ρ1 H1) {p:Addr} (hp:H p=none):Step ρ H (ρ1++[p]) H1:=
 ⟨st.pre.trans (List.prefix_append _ _),st.keep,fun a ha=>by
  rcases List.mem_append.mp ha with ha | ha
  ·exact st.new a ha
  ·obtain rfl:a=p:=by simpa using ha
   exact .inr hp,st.fz⟩
theorem iD {f:F} (h:PE X a (tF G M W f)):PE X a (tE G M W (.CG f)):=
 h.imp fun σ H Q ⟨ρ,η,S,s,r,h⟩=>⟨ρ,η,S,s,r,by
  have h0:PR G W σ ρ H ((d9 M f η S).bind fun o S1=>.ok (.ref S1.length) (S1++[o])) (okV G Q):=h
  cases e:d9 M f η S with
  | ok o S1=>
   rw [e] at h0
   exact fun ρ1 H1 bU s1 p hp n ho sx=>h0 (ρ1++[p]) H1 (bU.one hp) sx _ (by simp only [VR];exact ⟨p,rfl,by rw [← s1.len];simp⟩)
  | exc x S1=>rw [e] at h0;exact h0
  | bad=>rw [e] at h0;exact h0⟩
theorem none_of {ρ ρ1:List Addr} {H H1:Hp} {S S1:Hs} (s:bf G ρ H S) (s1:bf G ρ1 H1 S1) (st:Step ρ H ρ1 H1) {p:Addr} (hp:H1 p=none):H p=none:=by
 cases q:H p with
 | none=>rfl
 | some o=>
  by_cases n:p∈ρ
  ·exact absurd (st.pre.subset n) (s1.free hp)
  ·rw [st.keep p o q n] at hp;cases hp
theorem jD {ρ:List Addr} {H H0:Hp} {S S0:Hs} {σ:L2.St} {W':WX} {o:Ob} {Q:VK} {u:HO} {p:Addr} {ρ0:List Addr} (s0:bf G ρ0 H0 S0) (st0:Step ρ0 H0 ρ H) (s:bf G ρ H S) (h:PR G W' σ ρ H (.ok o S) (Ci G H0 Q)) (hp:H p=none)
  (ho:∀ ρ',Step ρ H ρ' (upd H p u)→OR G ρ' (upd H p u) p o):Q (.ref p) (upd H p u):=by
 have sm:Same H (upd H p u):=fK hp
 have n:p∉ρ:=s.free hp
 have bU:Step ρ H (ρ++[p]) (upd H p u):=(bu sm).one hp
 refine h ρ _ (bu sm) (s.same sm) p (none_of s0 s st0 hp) n (ho ρ (bu sm)) ⟨by simp [s.len],?_,fun r o' a h1 h2=> ?_⟩
 ·rw [List.nodup_append]
  exact ⟨s.nd,by simp,fun x hx y hy=>by
   have:y=p:=by simpa using hy
   subst this
   exact fun e=>n (e ▸ hx)⟩
 ·by_cases hr:r<S.length
  ·rw [List.getElem?_append_left hr] at h1
   rw [List.getElem?_append_left (by rw [s.len];exact hr)] at h2
   exact (s.at_ r o' a h1 h2).same bU sm
  ·have Ry:r=S.length:=by
    have:=(List.getElem?_eq_some_iff.mp h1).1
    simp at this
    omega
   subst Ry
   have e1:o'=o:=by simpa using h1.symm
   have e2:a=p:=by rw [← s.len] at h2;simpa using h2.symm
   subst e1 e2
   exact ho _ bU
end
end Oz
namespace Oz
open PySem L2 PyProof.Rows
section
variable {G:bB} {k:Nat} {X:Cx} {M:aF} {W:WX} {a b c:Expr} {ca cb cc:E} {pos:Pos}
theorem dZ {es:List Expr} {cU:Es} (h:PA X es (tA G M W cU)):PE X (.List es pos) (tF G M W (.lst cU)):=
 (pe_lst h).imp fun σ H Q ⟨ρ,η,S,s,r,h⟩=>⟨ρ,η,S,s,r,(PR.bind h).mono fun ρ1 H1 xs S1 bU s1 h1 vs xO=>by
  split at h1
  ·rename_i hz
   exact ⟨by rw [← xO.length];exact hz,fun p hp=>jD s bU s1 h1 hp fun ρ' gG=>⟨vs,upd_same,au.step gG _ _ xO⟩⟩
  ·exact h1.elim⟩
theorem adE:OpR X (binaryOp .Add) (fun x y H Q=>∃ l b xs zs,x=.ref l∧y=.ref b∧Rd H l (.lst xs)∧Rd H b (.lst zs)∧xs.length+zs.length≤sizeLine∧∀ p,H p=none→Q (.ref p) (upd H p (.lst (xs++zs)))):=by
 intro pins s σ H x y v u Q I rx ry ⟨l,b,xs,zs,ex,ey,h1,h2,hz,q⟩
 subst ex ey
 cases rx
 cases ry
 obtain ⟨_,its,n,r,e⟩:=h1.ok I.hok
 obtain ⟨_,its2,n2,r2,e2⟩:=h2.ok I.hok
 have l1:=r.length
 have l2:=r2.length
 refine PySem.P.add_list e e2 ?_ (by simp only [List.size_toArray];omega)
 rw [show its.toArray++its2.toArray=(its++its2).toArray by simp]
 exact ⟨.ref _,_,I.lnew (t':=s.toks) (r.append r2) (by simp only [List.length_append];omega),rfl,q _ I.fresh⟩
theorem Fp (ha:PE X a (tE G M W ca)) (hb:PE X b (tE G M W cb)):PE X (.BinOp a .Add b pos) (tF G M W (.cat ca cb)):=
 (pe_op adE ha hb).imp fun σ H Q ⟨ρ,η,S,s,r,h⟩=>⟨ρ,η,S,s,r,(PR.bind h).mono fun ρ1 H1 x S1 bU s1 h1 v hv=>⟨ρ1,η,S1,s1,r.step bU,(PR.bind h1).mono fun ρ2 H2 y S2 st2 s2 h2 w hw=>by
  split at h2
  ·rename_i xs ys e1 e2
   split at h2
   ·rename_i hz
    obtain ⟨p,vs,rfl,g1,g2⟩:=lU s2 (hv.step st2) e1
    obtain ⟨p',ws,rfl,g3,g4⟩:=lU s2 hw e2
    exact ⟨p,p',vs,ws,rfl,rfl,g1,g3,by rw [← g2.length,← g4.length];exact hz,fun q hq=>jD s (bU.trans st2) s2 h2 hq fun ρ' gG=>⟨_,upd_same,au.step gG _ _ (g2.append g4)⟩⟩
   ·exact h2.elim
  ·exact h2.elim⟩⟩
theorem ahM (g:Good G k X) {lo hi:Option Expr} {cl ch:Oe} {p2:Pos} (ha:PE X a (tE G M W ca)) (hl:PO X lo (tO G M W cl)) (hh:PO X hi (tO G M W ch)):PE X (.Subscript a (.Slice lo hi none p2) pos) (tF G M W (.slc ca cl ch)):=
 (pe_slice sl_list ha hl hh).imp fun σ H Q ⟨ρ,η,S,s,r,h⟩=>⟨ρ,η,S,s,r,(PR.bind h).mono fun ρ1 H1 x S1 bU s1 h1 v hv=>⟨ρ1,η,S1,s1,r.step bU,(PR.bind h1).mono fun ρ2 H2 l S2 st2 s2 h2=>⟨ρ2,η,S2,s2,(r.step bU).step st2,(PR.bind h2).mono fun ρ3 H3 u S3 lN s3 h3=>by
  split at h3
  ·rename_i xs e
   obtain ⟨p,vs,rfl,g1,g2⟩:=lU s3 ((hv.step st2).step lN) e
   exact ⟨p,vs,rfl,.inl g1,fun q hq=>jD s ((bU.trans st2).trans lN) s3 h3 hq fun ρ' gG=>⟨_,upd_same,au.step gG _ _ (g2.cut _ _)⟩⟩
  ·exact h3.elim⟩⟩⟩
theorem vJ (ha:PE X a (tE G M W ca)) (hs:starEach [a] X.env=[(false,eval a X.env)]):PA X [a] (tCons (tE G M W ca) tNil):=pa_cons ha pa_nil (by rw [hs];rfl)
theorem afQ (g:Good G k X) {p:Pos} (hg:Gl X "list") (hm:X.mg "list"=none) (ha:PE X a (tE G M W ca)) (hs:starEach [a] X.env=[(false,eval a X.env)]):PE X (.Call (.Name "list" p) [a] [] pos) (tF G M W (.cpy ca)):=
 (pe_callTy call_list_of hg hm (by decide+kernel) (vJ ha hs) (by decide) (by decide) (by rw [hs];rfl) rfl).imp fun σ H Q ⟨ρ,η,S,s,r,h⟩=>⟨ρ,η,S,s,r,(PR.bind h).mono fun ρ1 H1 x S1 bU s1 h1 v hv=>by
  split at h1
  ·rename_i xs e
   obtain ⟨p,vs,rfl,g1,g2⟩:=uR s1 hv e
   exact ⟨p,vs,rfl,by rw [g.K];exact g1,fun q hq=>jD s bU s1 h1 hq fun ρ' gG=>⟨_,upd_same,au.step gG _ _ g2⟩⟩
  ·exact h1.elim⟩
def rB1 (G:bB) (f:B1):List V→Hp→VK→Prop:=fun xs H Q=>∃ ρ S a z x,xs=[x]∧bf G ρ H S∧VR G ρ H a x∧ir f S a=some z∧Jh G ρ H S z Q
def B1.fv:B1→Value
 | .len=>.builtin "len" | .all=>.builtin "all" | .any=>.builtin "any" | .repr=>.builtin "repr" | .sum=>.builtin "sum" | .max=>.builtin "max"
 | .tuple=>.type "tuple" | .str=>.type "str" | .int=>.type "int"
theorem S8 (g:Good G k X) {pins:List (Addr × Obj)} {s:Shared} {σ:L2.St} {H:Hp} {x:V} {u:Value} {d:PyData} {Q:VK} (I:Inv X pins σ H s) (r:RelV x u) (h:Dp X.K H x d) (h1:d.showable=true) (h2:d.shown.length≤sizeLine) (h3:d.canLay0=true) (h4:d.depth≤60) (q:Q (.str d.shown) H) :
  wpAny (model X.prog X.w) X.A (call (.builtin "repr") [u]) (EP X pins σ Q) X.xe s:=by
 obtain ⟨as,rd⟩:=Dp.reads I d x u h r
 have hd:d.hasDict=true→sysModules∉as:=fun z=>by rw [PySem.PyData.hasDict_of_canLay d h3] at z;cases z
 have hu:=g.u64
 have fin:∀ (h':Heap) (w':Tok) (tk:Nat),(∀ b o,s.heap.get? b=some o→h'.get? b=some o)→EP X pins σ Q (.str d.shown w') { s with heap:=h',toks:=tk }:=fun h' w' tk kp=>⟨.str d.shown,H,I.kept kp,⟨w',rfl⟩,q⟩
 cases d with
 | none=>cases rd;exact PySem.P.repr_of_none (by have:=fin s.heap s.toks (s.toks+1) fun _ _ e=>e;simpa only [PyData.shown] using this)
 | bool b=>cases rd;exact PySem.P.repr_of_bool (by have:=fin s.heap s.toks (s.toks+1) fun _ _ e=>e;simpa only [PyData.shown] using this)
 | int i=>cases rd;exact PySem.P.repr_of_int (by simpa [PyData.showable] using h1) (by have:=fin s.heap s.toks (s.toks+1) fun _ _ e=>e;simpa only [PyData.shown] using this)
 | str i=>cases rd;exact PySem.P.repr_of_str (by have:=fin s.heap s.toks (s.toks+1) fun _ _ e=>e;simpa only [PyData.shown] using this) (by simpa only [PyData.shown] using h2)
 | list xs=>
  obtain ⟨a,ea⟩:∃ a,u=.ref a:=by cases rd;exact ⟨_,rfl⟩
  subst ea
  exact PySem.repr_of_reads' rd h1 hd g.N7 (by omega) (fun _ _ e=>e) (fun h' w' tk kp=>fin h' w' tk kp) h2
 | tuple xs=>
  obtain ⟨a,ea⟩:∃ a,u=.ref a:=by cases rd;exact ⟨_,rfl⟩
  subst ea
  exact PySem.repr_of_reads' rd h1 hd g.N7 (by omega) (fun _ _ e=>e) (fun h' w' tk kp=>fin h' w' tk kp) h2
 | dict xs=>simp [PySem.PyData.canLay0] at h3
theorem W4:∀ {ns:List Int} {m:Int},QJ ns=some m→m∈ns∧∀ y∈ns,y≤m
 | [],m,e=>by cases e
 | x::xs,m,e=>by
  simp only [QJ] at e
  cases h:QJ xs with
  | none=>
   rw [h] at e
   cases e
   have:xs=[]:=by
    cases xs with
    | nil=>rfl
    | cons y ys=>
     simp only [QJ] at h
     split at h<;>cases h
   subst this
   exact ⟨List.mem_cons_self,fun y hy=>by rw [List.mem_singleton.mp hy];exact Int.le_refl _⟩
  | some k=>
   rw [h] at e
   obtain ⟨h1,h2⟩:=W4 h
   simp only [Option.some.injEq] at e
   split at e
   ·rename_i c
    subst e
    exact ⟨List.mem_cons_of_mem _ h1,fun y hy=>by
     rcases List.mem_cons.mp hy with rfl | hy
     ·exact c
     ·exact h2 y hy⟩
   ·rename_i c
    subst e
    exact ⟨List.mem_cons_self,fun y hy=>by
     rcases List.mem_cons.mp hy with rfl | hy
     ·exact Int.le_refl _
     ·have:=h2 y hy;omega⟩
theorem zB [bT G X] (g:Good G k X) (f:B1):CallR X f.fv (rB1 G f):=by
 intro pins st σ H xs us Q I r h
 obtain ⟨ρ,S,a,z,x,rfl,s,ra,e,q⟩:=h
 cases f with
 | len=>
  simp only [ir] at e
  split at e
  ·simp only [VR] at ra;subst ra
   split at e
   ·rename_i hz
    cases e
    exact call_len_str pins st σ H _ us Q I r ⟨_,rfl,hz,q.now s (by simp only [VR])⟩
   ·cases e
  ·split at e
   ·rename_i ks xs ed
    cases e
    obtain ⟨p,kvs,rfl,h1,h2,h3⟩:=nJ s ra ed
    obtain ⟨u,rfl,ru⟩:=vals1 r
    obtain rfl:u=Value.ref p:=ru
    refine d_len I h1 fun t s' I'=>⟨.int _,H,I',⟨t,rfl⟩,q.now s ?_⟩
    rw [← h2];simp only [VR,List.length_map]
   ·obtain ⟨ys,es,rfl⟩:=Option.map_eq_some_iff.mp e
    obtain ⟨p,vs,rfl,h1,h2⟩:=uR s ra es
    exact call_len_seq pins st σ H _ us Q I r ⟨p,vs,rfl,by rw [g.K];exact h1,q.now s (by simp only [VR,h2.length])⟩
 | all=>
  obtain ⟨bs,eb,rfl⟩:=Option.map_eq_some_iff.mp (show ((bV S a).bind allB).map _=some z from e)
  obtain ⟨ys,e1,e2⟩:=Option.bind_eq_some_iff.mp eb
  obtain ⟨p,vs,rfl,h1,h2⟩:=lU s ra e1
  exact cr_all g.calm pins st σ H _ us Q I r ⟨p,bs,rfl,by rw [← h2.bls e2];exact .inl h1,q.now s (by simp only [VR])⟩
 | any=>
  obtain ⟨bs,eb,rfl⟩:=Option.map_eq_some_iff.mp (show ((bV S a).bind allB).map _=some z from e)
  obtain ⟨ys,e1,e2⟩:=Option.bind_eq_some_iff.mp eb
  obtain ⟨p,vs,rfl,h1,h2⟩:=lU s ra e1
  exact cr_any g.calm pins st σ H _ us Q I r ⟨p,bs,rfl,by rw [← h2.bls e2];exact .inl h1,q.now s (by simp only [VR])⟩
 | sum=>
  obtain ⟨bs,eb,rfl⟩:=Option.map_eq_some_iff.mp (show ((bV S a).bind Cr).map _=some z from e)
  obtain ⟨ys,e1,e2⟩:=Option.bind_eq_some_iff.mp eb
  obtain ⟨p,vs,rfl,h1,h2⟩:=lU s ra e1
  exact cr_sum g.calm pins st σ H _ us Q I r ⟨p,bs,rfl,by rw [← h2.ints e2];exact .inl h1,q.now s (by simp only [VR])⟩
 | max=>
  obtain ⟨bs,eb,ez⟩:=Option.bind_eq_some_iff.mp (show ((bV S a).bind Cr).bind _=some z from e)
  obtain ⟨m,em,rfl⟩:=Option.map_eq_some_iff.mp ez
  obtain ⟨ys,e1,e2⟩:=Option.bind_eq_some_iff.mp eb
  obtain ⟨p,vs,rfl,h1,h2⟩:=lU s ra e1
  obtain ⟨m1,m2⟩:=W4 em
  exact cr_max g.calm pins st σ H _ us Q I r ⟨p,bs,rfl,by rw [← h2.ints e2];exact .inl h1,List.length_pos_of_mem m1,fun k k1 k2=>by
   have:k=m:=Int.le_antisymm (m2 k k1) (k2 m m1)
   subst this
   exact q.now s (by simp only [VR])⟩
 | tuple=>
  obtain ⟨ys,es,rfl⟩:=Option.map_eq_some_iff.mp (show (cV S a).map _=some z from e)
  obtain ⟨p,vs,rfl,h1,h2⟩:=uR s ra es
  rcases h1 with h1 | h1
  ·exact call_tuple_of pins st σ H _ us Q I r ⟨p,vs,rfl,.inl ⟨by rw [g.K];exact h1,fun l hl=>q.tup s h2 hl⟩⟩
  ·cases a with
   | tup zs=>
    simp only [cV,Option.some.injEq] at es;subst es
    exact call_tuple_of pins st σ H _ us Q I r ⟨p,vs,rfl,.inr ⟨by rw [g.K];exact h1,q.now s ra⟩⟩
   | lst zs=>
    simp only [VR] at ra
    obtain ⟨p',vs',e1,h3,h4⟩:=ra
    cases e1
    simp only [cV,Option.some.injEq] at es;subst es
    exact call_tuple_of pins st σ H _ us Q I r ⟨p,vs',rfl,.inl ⟨h3.sq,fun l hl=>q.tup s h4 hl⟩⟩
   | ref r'=>
    simp only [cV] at es
    split at es
    ·rename_i zs eo
     cases es
     obtain ⟨p',e1,_,vs',h3,h4⟩:=s.ref ra eo
     cases e1
     exact call_tuple_of pins st σ H _ us Q I r ⟨p,vs',rfl,.inl ⟨SqL.of h3,fun l hl=>q.tup s h4 hl⟩⟩
    ·cases es
   | _=>simp only [cV] at es;cases es
 | repr=>
  simp only [ir] at e
  split at e
  ·rename_i d ed
   split at e
   ·rename_i hz
    cases e
    obtain ⟨u,rfl,ru⟩:=vals1 r
    exact S8 g I ru (by rw [g.K];exact ue s ra ed) hz.1 hz.2.1 hz.2.2.1 hz.2.2.2 (q.now s (by simp only [VR]))
   ·cases e
  ·cases e
 | str=>
  simp only [ir] at e
  split at e
  ·simp only [VR] at ra;subst ra
   split at e
   ·rename_i hz
    cases e
    exact call_str_int pins st σ H _ us Q I r ⟨_,rfl,hz,q.now s (by simp only [VR])⟩
   ·cases e
  ·simp only [VR] at ra;subst ra
   cases e
   exact SkE.call_str_str pins st σ H _ us Q I r ⟨_,rfl,q.now s (by simp only [VR])⟩
  ·cases e
 | int=>
  simp only [ir] at e
  split at e
  ·simp only [VR] at ra;subst ra
   cases e
   exact call_int1 pins st σ H _ us Q I r (.inr ⟨_,rfl,q.now s (by simp only [VR])⟩)
  ·simp only [VR] at ra;subst ra
   cases e
   exact call_int1 pins st σ H _ us Q I r (.inl ⟨_,rfl,q.now s (by simp only [VR])⟩)
  ·simp only [VR] at ra;subst ra
   split at e
   ·rename_i hz
    obtain ⟨m,em,rfl⟩:=Option.map_eq_some_iff.mp e
    exact call_int_str pins st σ H _ us Q I r ⟨_,m,rfl,em,hz,q.now s (by simp only [VR])⟩
   ·cases e
  ·cases e
end
end Oz
namespace Oz
open PySem L2 PyProof.Rows
structure qu (P:Program) (w:World) (K:PySem.W.Frag) (mg:Str→Option Value) (base:Heap) (k:Nat) (f:Addr) (fd:FuncData) (ps:List Str) (sp:Sp):Prop where
 len:∀ vs H Q E,sp vs H Q E→vs.length=ps.length
 run:∀ (A:Around) (outer:List Env) (s:Shared) (H:Hp) (args:Args) (us:List Value) (vs:List V) (Q:VK) (E:XK),Room k A→A.guards=some []→Env0 P w K mg base A outer s H→BindsTo s fd args (ps.zip us)→Vals vs us→sp vs H Q E→
  codeAny (model P w) A (.call (.ref f) args) (CR (L2.CX P w) outer P w H s Q E) s
theorem qu.mono {P:Program} {w:World} {K:PySem.W.Frag} {mg:Str→Option Value} {base:Heap} {j k:Nat} {f:Addr} {fd:FuncData} {ps:List Str} {sp:Sp} (F:qu P w K mg base j f fd ps sp) (h:j≤k):qu P w K mg base k f fd ps sp:=
 ⟨F.len,fun A outer s H args us vs Q E hr=>F.run A outer s H args us vs Q E (hr.mono h)⟩
def okR (G:bB) (H:Hp) (Q:VK):List Addr→Hp→Rv→Hs→Prop:=fun ρ' H' r S'=>match r with
 | .val x=>∀ v,VR G ρ' H' x v→Q v H'
 | .frs o=>∀ p,H p=none→p∉ρ'→OR G ρ' H' p o→bf G (ρ'++[p]) H' (S'++[o])→Q (.ref p) H'
def spI (G:bB) (M:aF) (n:Nat) (q:Str):Sp:=fun vs H Q E=>vs.length=n∧∃ ρ S xs,bf G ρ H S∧au G ρ H xs vs∧PR G (fun cls d _ H'=>E cls d H') [] ρ H (M.cal q xs S) (okR G H Q)
section
variable {G:bB} {k n:Nat} {X:Cx} {M:aF} {W:WX} {f C:Addr} {fd:FuncData} {ps:List Str} {sp:Sp} {dvs:List V} {ds:List Value} {q:Str}
theorem raised {pins:List (Addr × Obj)} {σ:L2.St} {H:Hp} {s s':Shared} {e:Value} (tk:Takes X W) (I:Inv X pins σ H s) (h:L2.CX X.prog X.w X.stack H s (fun c d H'=>W c d σ H') e s'):X.xe e s':=
 tk e s' (XE.of_call I (fun _ _ _ h=>h) h)
theorem abT {pins:List (Addr × Obj)} {σ:L2.St} {H:Hp} {s:Shared} {Q:VK} {us:List Value} {vs:List V} (F:qu X.prog X.w X.K X.mg X.base k f fd ps sp) (hr:Room k X.A) (hg:X.A.guards=some []) (hb:Binds X.K fd ps ds) (hd:Vals dvs ds) (tk:Takes X W)
  (I:Inv X pins σ H s) (r:Vals vs us) (h:sp (vs++dvs) H Q (fun c d H'=>W c d σ H')):wpAny (model X.prog X.w) X.A (call (.ref f) us) (EP X pins σ Q) X.xe s:=by
 have rr:=r.append hd
 have len:(us++ds).length=ps.length:=rr.length.symm.trans (F.len _ _ _ _ h)
 refine wpAny_call (codeAny_mono (F.run X.A X.stack s H ⟨us,[]⟩ (us++ds) (vs++dvs) Q _ hr hg I.env0 (hb s us I.kIn len) rr h) ?_)
 intro r' s' hq
 match r',hq with
 | .error e,hq=>exact raised tk I hq
 | .ok (.ret u),hq=>exact I.after hq
 | .ok .next,hq=>exact hq.elim
 | .ok .brk,hq=>exact hq.elim
 | .ok .cont,hq=>exact hq.elim
theorem BJ {A:Around} {us:List Value} {kw:List (Str × Value)} (h:A.guards=some []):(A.under (.builtin "type.__call__" ⟨.ref C::us,kw⟩)).guards=some []:=by
 have e:(Code.builtin "type.__call__" ⟨.ref C::us,kw⟩).guards=[]:=by
  unfold Code.guards
  rw [if_neg]
  intro z
  have z2:guardIds.contains "type.__call__"=true:=z
  exact absurd z2 (by decide+kernel)
 unfold Around.under
 simp only [e]
 rw [h];rfl
end
section
variable {G:bB} {k n:Nat} {X:Cx} {M:aF} {W:WX} {f C:Addr} {fd:FuncData} {ps:List Str} {ds:List Value} {q x m:Str} {a e:Expr} {es:List Expr} {ca:E} {cU:Es} {p pos cH:Pos}
def Es.app:Es→List Vl→Es
 | .nil,[]=>.nil
 | .nil,v::vs=>.cons (.cst v) (Es.app .nil vs)
 | .cons e es,vs=>.cons e (Es.app es vs)
theorem qC:∀ (es:Es) (vs:List Vl) (η:Sg) (S:Hs),evs M (es.app vs) η S=(evs M es η S).bind fun xs S1=>.ok (xs++vs) S1
 | .nil,[],_,_=>by simp only [Es.app,evs,Res.bind,List.append_nil]
 | .nil,v::vs,η,S=>by
  have h:=qC .nil vs η S
  simp only [Es.app,evs,ev,Res.bind] at h ⊢
  rw [h];rfl
 | .cons e es,vs,η,S=>by
  simp only [Es.app,evs]
  cases ev M e η S with
  | ok x S1=>
   simp only [Res.bind]
   rw [qC es vs η S1]
   cases evs M es η S1<;>rfl
  | exc x S1=>rfl
  | bad=>rfl
def Bg (G:bB) (xs:List Vl) (dvs:List V):Prop:=∀ ρ H,au G ρ H xs dvs
theorem PR.vo {α:Type} {W:WX} {σ:L2.St} {ρ:List Addr} {H:Hp} {r:Res α} {ok:List Addr→Hp→α→Hs→Prop} (h:PR G W σ ρ H r ok):PR G (fun cls d _ H'=>W cls d σ H') [] ρ H r ok:=by
 cases r with
 | ok a S=>exact h
 | exc x S=>
  intro ρ' H' st s
  have:=h ρ' H' st s
  unfold XW at this ⊢
  exact this
 | bad=>exact h
theorem PR.aaO {σ:L2.St} {ρ0 ρ:List Addr} {H0 H:Hp} {S0 S:Hs} {Q:VK} {xs:List Vl} (s0:bf G ρ0 H0 S0) (st:Step ρ0 H0 ρ H) (s:bf G ρ H S) (h:PR G W σ ρ H (qj M q xs S) (okV G Q)):PR G W σ ρ H (M.cal q xs S) (okR G H Q):=by
 have h':PR G W σ ρ H ((M.cal q xs S).bind fun r S1=>.ok r.v S1) (okV G Q):=h
 cases e:M.cal q xs S with
 | ok r S1=>
  rw [e] at h'
  intro ρ' H' gG s'
  cases r with
  | val x=>exact h' ρ' H' gG s'
  | frs o=>exact fun p _ n ho _=>h' ρ' H' gG s' _ (ho.inl n)
 | exc x S1=>rw [e] at h';exact h'
 | bad=>rw [e] at h';exact h'
theorem PR.ait {σ:L2.St} {ρ0 ρ:List Addr} {H0 H:Hp} {S0 S:Hs} {Q:VK} {xs:List Vl} (s0:bf G ρ0 H0 S0) (st:Step ρ0 H0 ρ H) (s:bf G ρ H S) (h:PR G W σ ρ H ((M.cal q xs S).bind fun r S2=>match r with | .frs o=>.ok o S2 | .val _=>.bad) (Ci G H0 Q)):PR G W σ ρ H (M.cal q xs S) (okR G H Q):=by
 cases e:M.cal q xs S with
 | ok r S1=>
  rw [e] at h
  cases r with
  | val x=>exact h.elim
  | frs o=>exact fun ρ' H' gG s' p hp n ho sx=>h ρ' H' gG s' p (none_of s0 s st hp) n ho sx
 | exc x S1=>rw [e] at h;exact h
 | bad=>rw [e] at h;exact h
def tCl (X:Cx) (k n:Nat) (G:bB) (M:aF) (q:Str) (W:WX) (cU:Es) (dxs:List Vl):TE:=fun σ H Q=>∃ ρ η S,bf G ρ H S∧ER G ρ H η σ∧PR G W σ ρ H (evs M cU η S) fun ρ1 H1 xs S1=>xs.length+dxs.length=n∧PR G W σ ρ1 H1 (M.cal q (xs++dxs) S1) (okR G H1 Q)
theorem Q8 [bT G X] (g:Good G (k+1) X) (F:qu X.prog X.w X.K X.mg X.base k f fd ps (spI G M n q)) (hg:Gl X x) (hm:X.mg x=some (.ref f)) (hk:PySem.W.keepIn X.K (.ref f)=true) {dxs:List Vl} {dvs:List V} (hb:Binds X.K fd ps ds) (hd:Vals dvs ds) (hc:Bg G dxs dvs) (tk:Takes X W)
  (ha:PA X (e::es) (tA G M W cU)) (sX:(x==("__debug__":Str))=false:=by decide) (he:starEach (e::es) X.env=(false,eval e X.env)::starEach es X.env:=by rfl) (jt:(backTo pos (starEach es X.env)).any (·.1)=false:=by rfl) :
  PE X (.Call (.Name x p) (e::es) [] pos) (tCl X k n G M q W cU dxs):=by
 refine ⟨fun pins s σ H Q I ⟨ρ,η,S,s0,r,h⟩=> ?_⟩
 have hr:Room k X.A:=g.rm.mono (Nat.le_succ _)
 refine wpAny_Call_Name_kw (ld_glob I hg hm ?_ sX)
 refine PySem.W.callWith_K (h₀:=X.base) I.ok.mod.kin hk (thn (ha.run pos pins s σ H (fun vs H1=>∃ xs ρ1 S1,Step ρ H ρ1 H1∧bf G ρ1 H1 S1∧au G ρ1 H1 xs vs∧xs.length+dxs.length=n∧PR G W σ ρ1 H1 (M.cal q (xs++dxs) S1) (okR G H1 Q)) I ⟨ρ,η,S,s0,r,h.mono fun ρ1 H1 xs S1 bU s1 hl vs hv=>⟨xs,ρ1,S1,bU,s1,hv,hl⟩⟩) fun us s1 ⟨vs,H1,I1,rv,xs,ρ1,S1,bU,sm1,hv,hl,hp⟩=>⟨I1.kIn,?_⟩) he jt
 refine abT F hr g.N7 hb hd tk I1 rv ⟨?_,ρ1,S1,xs++dxs,sm1,hv.append (hc _ _),PR.vo hp⟩
 rw [List.length_append,← hv.length,← (hc ρ1 H1).length];exact hl
theorem CN {σ:L2.St} {H:Hp} {Q:VK} {dxs:List Vl} (hn:∀ η S xs S1,evs M cU η S=.ok xs S1→xs.length+dxs.length=n) (h:tE G M W (.call q (cU.app dxs)) σ H Q):tCl X k n G M q W cU dxs σ H Q:=by
 obtain ⟨ρ,η,S,s0,r,h⟩:=h
 refine ⟨ρ,η,S,s0,r,?_⟩
 simp only [ev,qC] at h
 cases e:evs M cU η S with
 | ok xs S1=>
  rw [e] at h
  exact fun ρ1 H1 st s=>⟨hn _ _ _ _ e,PR.aaO s0 st s (PR.step h st)⟩
 | exc x S1=>rw [e] at h;exact h
 | bad=>rw [e] at h;exact h
theorem aef {σ:L2.St} {H:Hp} {Q:VK} {dxs:List Vl} (hn:∀ η S xs S1,evs M cU η S=.ok xs S1→xs.length+dxs.length=n) (h:tF G M W (.call q (cU.app dxs)) σ H Q):tCl X k n G M q W cU dxs σ H Q:=by
 obtain ⟨ρ,η,S,s0,r,h⟩:=h
 refine ⟨ρ,η,S,s0,r,?_⟩
 simp only [d9,qC] at h
 cases e:evs M cU η S with
 | ok xs S1=>
  rw [e] at h
  refine fun ρ1 H1 st s=>⟨hn _ _ _ _ e,?_⟩
  have h2:=PR.step h st
  simp only [Res.bind] at h2
  exact PR.ait s0 st s h2
 | exc x S1=>rw [e] at h;exact h
 | bad=>rw [e] at h;exact h
def Es.len:Es→Nat
 | .nil=>0
 | .cons _ es=>es.len+1
theorem mJ:∀ (es:Es) (η:Sg) (S:Hs) (xs:List Vl) (S1:Hs),evs M es η S=.ok xs S1→xs.length=es.len
 | .nil,η,S,xs,S1,h=>by
  simp only [evs] at h
  cases h;rfl
 | .cons e es,η,S,xs,S1,h=>by
  simp only [evs] at h
  cases e1:ev M e η S with
  | ok x S2=>
   rw [e1] at h;simp only [Res.bind] at h
   cases e2:evs M es η S2 with
   | ok ys S3=>
    rw [e2] at h;cases h
    simp only [List.length_cons,Es.len,mJ es η S2 ys _ e2]
   | exc x S3=>rw [e2] at h;cases h
   | bad=>rw [e2] at h;cases h
  | exc x S2=>rw [e1] at h;cases h
  | bad=>rw [e1] at h;cases h
end
end Oz
namespace Oz
open PySem L2 PyProof.Rows
inductive Kq where
 | lst (a:Addr) | tup (a:Addr) | txt (z:Str)
def Kq.v:Kq→V
 | .lst a=>.ref a
 | .tup a=>.ref a
 | .txt z=>.str z
def Kq.cur (K:PySem.W.Frag) (H:Hp):Kq→List V→Prop
 | .lst a,vs=>SqL K H a vs
 | .tup a,vs=>SqT K H a vs
 | .txt z,vs=>vs=z.cps.toList.map fun c=>V.str ⟨#[c]⟩
def Kq.at_ (h:Heap) (it:Addr) (i:Nat):Kq→Prop
 | .lst a=>h.IsListIter it a i
 | .tup a=>h.IsTupleIter it a i
 | .txt z=>∃ t,h.IsStrIter it (strIterType z) z t i
def Kq.lt (n:Nat):Kq→Prop
 | .lst a=>a<n
 | .tup a=>a<n
 | .txt _=>True
theorem Kq.keep {h h':Heap} {it:Addr} {i:Nat}:∀ {q:Kq},q.at_ h it i→(∀ o,h.get? it=some o→h'.get? it=some o)→q.at_ h' it i
 | .lst a,st,k=>Heap.IsListIter.at st k
 | .tup a,st,k=>Heap.IsTupleIter.at st k
 | .txt z,⟨t,o,e,r⟩,k=>⟨t,o,k o e,r⟩
theorem Kq.live {h:Heap} {it:Addr} {i:Nat}:∀ {q:Kq},q.at_ h it i→∃ o,h.get? it=some o∧∀ v,o.data≠.cell v
 | .lst a,⟨o,e,c,d⟩=>⟨o,e,fun v z=>by rw [d] at z;cases z⟩
 | .tup a,⟨o,e,c,d⟩=>⟨o,e,fun v z=>by rw [d] at z;cases z⟩
 | .txt z,⟨t,o,e,c,d⟩=>⟨o,e,fun v z=>by rw [d] at z;cases z⟩
section
variable {X:Cx} {pins:List (Addr × Obj)} {σ:L2.St} {H:Hp} {s:Shared}
theorem Kq.inj (I:Inv X pins σ H s):∀ {q:Kq} {vs ws:List V},q.cur X.K H vs→q.cur X.K H ws→vs=ws
 | .lst a,_,_,h1,h2=>I.list_inj h1 h2
 | .tup a,_,_,h1,h2=>I.tuple_inj h1 h2
 | .txt z,_,_,h1,h2=>h1.trans h2.symm
theorem Kq.draws (I:Inv X pins σ H s) (hc:X.A.handled=none) {it:Addr} {i n:Nat} {vs:List V}:∀ {q:Kq},q.cur X.K H vs→q.at_ s.heap it i→q.lt n→n≤it→
  ∃ (fp:List Addr) (P:Nat→Value→Prop) (St:Nat→Heap→Prop),Draws X.prog X.w X.A.in1 it fp vs.length P St∧it∈fp∧St i s.heap∧(∀ b∈fp,b=it∨b<n)∧(∀ j x,P j x→∃ v,vs[j]? =some v∧RelV v x)∧(∀ j h,St j h→q.at_ h it j)
 | .lst a,c,st,l,hn=>by
  obtain ⟨its,rv,p,hz⟩:=I.list c
  have ne:a≠it:=Nat.ne_of_lt (Nat.lt_of_lt_of_le l hn)
  have D:=Draws.list (prog:=X.prog) (w:=X.w) (A:=X.A.in1) (show X.A.in1.handled=none from hc) it a ne its.toArray
  have e:its.toArray.size=vs.length:=by rw [List.size_toArray,rv.length]
  rw [e] at D
  refine ⟨_,_,_,D,by simp,⟨st,p.isList⟩,fun b hb=> ?_,fun j x hx=> ?_,fun j h q=>q.1⟩
  ·rcases List.mem_cons.mp hb with z | z
   ·exact .inl z
   ·rw [List.mem_singleton.mp z];exact .inr l
  ·have Jg:its[j]? =some x:=by simpa using hx
   have hj:j<vs.length:=by rw [rv.length];exact (List.getElem?_eq_some_iff.mp Jg).1
   obtain ⟨u,hu,ru⟩:=rv.get (List.getElem?_eq_getElem hj)
   rw [Jg] at hu;cases hu
   exact ⟨_,List.getElem?_eq_getElem hj,ru⟩
 | .tup a,c,st,l,hn=>by
  obtain ⟨its,rv,p,hz⟩:=I.tuple c
  have ne:a≠it:=Nat.ne_of_lt (Nat.lt_of_lt_of_le l hn)
  have D:=Draws.tuple (prog:=X.prog) (w:=X.w) (A:=X.A.in1) (show X.A.in1.handled=none from hc) it a ne its.toArray
  have e:its.toArray.size=vs.length:=by rw [List.size_toArray,rv.length]
  rw [e] at D
  refine ⟨_,_,_,D,by simp,⟨st,p⟩,fun b hb=> ?_,fun j x hx=> ?_,fun j h q=>q.1⟩
  ·rcases List.mem_cons.mp hb with z | z
   ·exact .inl z
   ·rw [List.mem_singleton.mp z];exact .inr l
  ·have Jg:its[j]? =some x:=by simpa using hx
   have hj:j<vs.length:=by rw [rv.length];exact (List.getElem?_eq_some_iff.mp Jg).1
   obtain ⟨u,hu,ru⟩:=rv.get (List.getElem?_eq_getElem hj)
   rw [Jg] at hu;cases hu
   exact ⟨_,List.getElem?_eq_getElem hj,ru⟩
 | .txt z,c,⟨t,st⟩,l,hn=>by
  have D:=Draws.text (prog:=X.prog) (w:=X.w) (A:=X.A.in1) (show X.A.in1.handled=none from hc) it z t
  have e:z.cps.size=vs.length:=by rw [show vs=_ from c,List.length_map,Array.length_toList]
  rw [e] at D
  refine ⟨_,_,_,D,by simp,st,fun b hb=>.inl (List.mem_singleton.mp hb),fun j x hx=> ?_,fun j h q=>⟨t,q⟩⟩
  obtain ⟨c',u,h1,rfl⟩:=hx
  refine ⟨.str ⟨#[c']⟩,?_,⟨u,rfl⟩⟩
  rw [show vs=_ from c,List.getElem?_map,Array.getElem?_toList,h1];rfl
theorem Kq.begins (I:Inv X pins σ H s) {vs:List V} {u:Value}:∀ {q:Kq},q.cur X.K H vs→RelV q.v u→∃ (o:Obj) (Hk:Heap→Prop),Begins u o Hk∧Hk s.heap∧q.lt s.heap.objs.size∧∀ (h':Heap) (it:Addr),h'.get? it=some o→q.at_ h' it 0
 | .lst a,c,r=>by
  obtain ⟨its,rv,p,hz⟩:=I.list c
  obtain rfl:u=Value.ref a:=r
  exact ⟨_,_,begins_list a its.toArray,p.isList,p.lt,fun h' it e=>⟨_,e,rfl,rfl⟩⟩
 | .tup a,c,r=>by
  obtain ⟨its,rv,p,hz⟩:=I.tuple c
  obtain rfl:u=Value.ref a:=r
  obtain ⟨o,ho,_⟩:=id p
  exact ⟨_,_,begins_tuple a its.toArray,p,Heap.lt_size ho,fun h' it e=>⟨_,e,rfl,rfl⟩⟩
 | .txt z,c,r=>by
  obtain ⟨t,rfl⟩:=r
  exact ⟨_,_,begins_text z t,trivial,trivial,fun h' it e=>⟨t,_,e,rfl,rfl⟩⟩
end
theorem two {n c:Nat} (h:c∈[n+1,n]):n≤c∧c≤n+1:=by
 simp at h;omega
def aiU (K:PySem.W.Frag) (q r:Kq):It:=
 ⟨fun i H=>∃ (vs ws:List V),q.cur K H vs∧r.cur K H ws∧i<vs.length∧i<ws.length,
  fun i H v H'=>∃ T x y,v=.ref T∧H T=none∧H'=upd H T (.tup [x,y])∧(∀ vs,q.cur K H vs→vs[i]? =some x)∧∀ ws,r.cur K H ws→ws[i]? =some y,
  fun i H=>∃ (vs ws:List V),q.cur K H vs∧r.cur K H ws∧i≤vs.length∧i≤ws.length∧(i=vs.length∨i=ws.length)⟩
def amE (K:PySem.W.Frag) (ta:TA):TI:=fun σ H R=>ta σ H fun xs H1=>∃ q r vs ws,xs=[Kq.v q,Kq.v r]∧q.cur K H1 vs∧r.cur K H1 ws∧R (aiU K q r) H1
def abR (K:PySem.W.Frag) (k0:Int) (q:Kq):It:=
 ⟨fun i H=>∃ (vs:List V),q.cur K H vs∧i<vs.length,
  fun i H v H'=>∃ T x,v=.ref T∧H T=none∧H'=upd H T (.tup [.int (k0+(i:Nat)),x])∧∀ vs,q.cur K H vs→vs[i]? =some x,
  fun i H=>∃ (vs:List V),q.cur K H vs∧i=vs.length⟩
theorem RP {P:Program} {w:World} {K:PySem.W.Frag} {t7:List Expr} {kk:Nat} {uQ:Pos} {k0:Int} {q:Kq} {n:Nat} (lq:q.lt n) :
  Turn P w K (.Tuple t7 kk uQ) (abR K k0 q) [n+1,n] (n+1) (fun i h=>(∃ old,IsEnum h (n+1) n (k0+(i:Nat)) old)∧q.at_ h n i) where
 mem:=by simp
 obj:=fun i h st b hb=>by
  obtain ⟨⟨old,he⟩,h1⟩:=st
  have e':b=n+1∨b=n:=by simpa using hb
  rcases e' with z | z
  ·rw [z];exact ⟨_,he,fun v q=>nomatch q⟩
  ·rw [z];exact Kq.live h1
 keep:=fun i h h' st k=>let ⟨⟨old,he⟩,hi⟩:=st;⟨⟨old,k (n+1) (by simp) _ he⟩,Kq.keep hi fun o q=>k n (by simp) o q⟩
 item:=by
  intro X hP hw hK hc i pins s σ H E I hf st hg
  subst hP hw hK
  obtain ⟨⟨old,he⟩,h1⟩:=st
  obtain ⟨vs,c1,i1⟩:=hg
  obtain ⟨f1,P1,S1,D1,m1,s1,b1,p1,a1⟩:=Kq.draws I (I.ok.hd hc) c1 h1 lq (Nat.le_refl _)
  have hel:n+1<s.heap.objs.size:=Heap.lt_size he
  have hef:n+1∉f1:=fun h=>(b1 _ h).elim (fun e=>Nat.succ_ne_self n e) fun l=>absurd l (by show ¬ n+1<n;omega)
  refine wpAny_pyNext_enum_itemC D1 he s1 i1 (Nat.succ_ne_self n) hef fun x1 h' tk px ho gG hT Z7 hk=> ?_
  obtain ⟨x,ex,rx⟩:=p1 i x1 px
  refine ⟨_,rfl,wpAny_letOwnedTupleGo_enum (s:={ s with heap:=h',toks:=tk+1 }) ho fun h'' he' sb=> ?_⟩
  have hT2:h''.get? s.heap.objs.size=some { cls:=.type "tuple",data:=.seq #[.int (k0+(i:Nat)) tk,x1] }:=(sb.2 _ (Nat.ne_of_gt hel)).trans hT
  have new:ObjOk X.prog X.w (upd H s.heap.objs.size (.tup [.int (k0+(i:Nat)),x])) h'' s.heap.objs.size (.tup [.int (k0+(i:Nat)),x]):=
   ⟨by show 2≤sizeLine;decide,[.int (k0+(i:Nat)) tk,x1],.cons ⟨_,rfl⟩ (.cons rx .nil),⟨_,hT2,rfl,_,rfl⟩⟩
  have I1:Inv X pins σ (upd H s.heap.objs.size (.tup [.int (k0+(i:Nat)),x])) { s with heap:=h'',toks:=tk+1 }:=
   I.turnedNew (ch:=[n+1,n]) (fun b ob hb q=>(sb.2 b (fun z=>hb (by simp [z]))).trans (hk b ob (fun z=>hb (by simp [z])) (fun z=>hb (by simp [z])) q)) hf (Nat.le_refl _) new
  refine ⟨.ref s.heap.objs.size,_,I1,rfl,⟨_,x,rfl,I.hok.fresh (Nat.le_refl _),rfl,fun ys hy=>by rw [Kq.inj I hy c1];exact ex⟩,⟨⟨x1,?_⟩,Kq.keep (a1 _ _ gG) fun o q=>(sb.2 n (show n≠n+1 by omega)).trans q⟩,fun b hb=> ?_⟩
  ·have e1:k0+((i+1:Nat):Int)=k0+(i:Nat)+1:=by omega
   rw [e1];exact he'
  ·have hb':b<s.heap.objs.size:=Nat.lt_of_le_of_lt (two hb).2 hel
   rw [upd_ne (Nat.ne_of_lt hb')]
   exact (hf b hb).1
 done:=by
  intro X hP hw hK hc i pins s σ H E I hf st hg
  subst hP hw hK
  obtain ⟨⟨old,he⟩,h1⟩:=st
  obtain ⟨vs,c1,i1⟩:=hg
  obtain ⟨f1,P1,S1,D1,m1,s1,b1,p1,a1⟩:=Kq.draws I (I.ok.hd hc) c1 h1 lq (Nat.le_refl _)
  have D2:Draws X.prog X.w X.A.in1 n f1 i P1 S1:=by rw [i1];exact D1
  exact wpAny_pyNext_enum_endD D2 he s1 fun h' hx=>⟨rfl,I.turnedL (t':=s.toks) (ch:=[n+1,n]) (fun b o hb q=>hx b o (fun z=>hb (by simp [z])) q) hf⟩
 self:=fun A i s Q E st h=>let ⟨⟨_,he⟩,_⟩:=st;wpAny_pyIter_enum he h
def agW (K:PySem.W.Frag) (k0:Int) (ta:TA):TI:=fun σ H R=>ta σ H fun xs H1=>∃ q vs,xs=[Kq.v q]∧q.cur K H1 vs∧R (abR K k0 q) H1
theorem Kg {X:Cx} {pins:List (Addr × Obj)} {σ:L2.St} {H1:Hp} {s1:Shared} {q:Kq} {vs:List V} {k0:Int} {uQ:Pos} {t7:List Expr} {kk:Nat} {R:It→Hp→Prop} {h':Heap} {o:Obj} {E:Value→Shared→Prop} (I1:Inv X pins σ H1 s1) (c1:q.cur X.K H1 vs) (l1:q.lt s1.heap.objs.size) (a1:∀ (h':Heap) (it:Addr),h'.get? it=some o→q.at_ h' it 0)
  (he:IsEnum h' (s1.heap.objs.size+1) s1.heap.objs.size k0 .none) (g1:h'.get? s1.heap.objs.size=some o) (hk:∀ b o,s1.heap.get? b=some o→h'.get? b=some o) (hR:R (abR X.K k0 q) H1) :
  wpAny (model X.prog X.w) X.A (pyIter (.ref (s1.heap.objs.size+1))) (PIE X pins σ (.Tuple t7 kk uQ) R) E { s1 with heap:=h' }:=by
 refine wpAny_pyIter_enum he ?_
 have I2:Inv X pins σ H1 { s1 with heap:=h' }:=I1.kept (t':=s1.toks) hk
 refine ⟨_,[s1.heap.objs.size+1,s1.heap.objs.size],_,_,H1,rfl,I2,RP (k0:=k0) l1,⟨⟨.none,?_⟩,a1 _ _ g1⟩,fun c hcm=> ?_,hR⟩
 ·have e1:k0+((0:Nat):Int)=k0:=by omega
  rw [e1];exact he
 ·have hle:s1.heap.objs.size≤c:=(two hcm).1
  exact I1.fpOk hle (I1.hok.fresh hle)
end Oz
namespace Oz
open PySem L2 PyProof.Rows
theorem M5 {P:Program} {w:World} {K:PySem.W.Frag} {tg:Expr} {J J':It} {fp:List Addr} {it:Addr} {tn:Nat→Heap→Prop} (T:Turn P w K tg J fp it tn)
  (hg:∀ i H,J'.go i H→J.go i H) (hy:∀ i H x H',J'.go i H→J.yld i H x H'→J'.yld i H x H') (hs:∀ i H,J'.stop i H→J.stop i H):Turn P w K tg J' fp it tn where
 mem:=T.mem
 obj:=T.obj
 keep:=T.keep
 item:=fun X hP hw hK hc i pins s σ H E I hf st hgo=>wpAny_mono (T.item X hP hw hK hc i pins s σ H E I hf st (hg i H hgo)) (fun r s1 ⟨u,hr,h4⟩=>⟨u,hr,wpAny_mono h4 (fun _ s2 ⟨x,H',I',r',y,rest⟩=>⟨x,H',I',r',hy i H x H' hgo y,rest⟩) fun _ _ z=>z⟩) fun _ _ z=>z
 done:=fun X hP hw hK hc i pins s σ H E I hf st Ru=>T.done X hP hw hK hc i pins s σ H E I hf st (hs i H Ru)
 self:=T.self
def Itq (K:PySem.W.Frag) (q:Kq):It:=
 ⟨fun i H=>∃ vs:List V,q.cur K H vs∧i<vs.length,fun i H x H'=>H'=H∧∀ vs,q.cur K H vs→vs[i]? =some x,fun i H=>∃ vs:List V,q.cur K H vs∧i=vs.length⟩
def alj (K:PySem.W.Frag) (te:TE):TI:=fun σ H R=>te σ H fun x H1=>∃ q:Kq,x=q.v∧(∃ vs,q.cur K H1 vs)∧R (Itq K q) H1
theorem ZG {X:Cx} {tg e:Expr} {te:TE} (he:PE X e te):PI X tg e (alj X.K te):=by
 refine ⟨fun pins s σ H R I h=> ?_⟩
 refine thn (he.run pins s σ H _ I h) fun v s1 ⟨x,H1,I1,r1,q1⟩=> ?_
 obtain ⟨q,e,⟨xs,hq⟩,hR⟩:=q1
 subst e
 cases q with
 | lst a=>
  cases r1
  obtain ⟨its,rv,p,hz⟩:=I1.list hq
  refine wpAny_pyIter_list p.isList ?_
  refine ⟨s1.heap.objs.size,[s1.heap.objs.size],_,_,H1,rfl,I1.kept (t':=s1.toks) fun b o e=>Heap.get?_push_of_some _ e,M5 (J':=Itq X.K (.lst a)) (turn_list a s1.heap.objs.size) (fun i H ⟨vs,c,l⟩=>⟨vs,vs[i],c,by simp [l]⟩) (fun i H x H' _ y=>y) (fun i H ⟨vs,c,l⟩=>⟨vs,c,by omega⟩),⟨_,Heap.get?_push_size _ rfl,rfl,rfl⟩,fun b hb=> ?_,hR⟩
  have e:b=s1.heap.objs.size:=by simpa using hb
  subst e
  exact I1.fpOk (Nat.le_refl _) (I1.hok.fresh (Nat.le_refl _))
 | tup a=>
  cases r1
  obtain ⟨its,rv,p,hz⟩:=I1.tuple hq
  refine wpAny_pyIter_tuple (show s1.heap.IsTuple a its.toArray from p) ?_
  refine ⟨s1.heap.objs.size,[s1.heap.objs.size],_,_,H1,rfl,I1.kept (t':=s1.toks) fun b o e=>Heap.get?_push_of_some _ e,M5 (J':=Itq X.K (.tup a)) (turn_tuple a s1.heap.objs.size) (fun i H ⟨vs,c,l⟩=>⟨vs,vs[i],c,by simp [l]⟩) (fun i H x H' _ y=>y) (fun i H ⟨vs,c,l⟩=>⟨vs,c,by omega⟩),⟨_,Heap.get?_push_size _ rfl,rfl,rfl⟩,fun b hb=> ?_,hR⟩
  have e:b=s1.heap.objs.size:=by simpa using hb
  subst e
  exact I1.fpOk (Nat.le_refl _) (I1.hok.fresh (Nat.le_refl _))
 | txt z=>
  obtain ⟨t,rfl⟩:=r1
  have key:∀ (it:Addr) (ty:String) (hty:ty="str_ascii_iterator"∨ty="str_iterator"),Turn X.prog X.w X.K tg (Itq X.K (.txt z)) [it] it (fun i h=>h.IsStrIter it ty z t i):=fun it ty hty=>
   M5 (J':=Itq X.K (.txt z)) (turn_str it z t ty hty) (fun i H ⟨vs,c,l⟩=>by
    have c':vs=z.cps.toList.map fun c=>V.str ⟨#[c]⟩:=c
    subst c'
    show i<z.cps.size
    simpa using l) (fun i H x H' _ ⟨e,c,hc,hx⟩=>⟨e,fun vs c'=>by
     have c':vs=z.cps.toList.map fun c=>V.str ⟨#[c]⟩:=c'
     subst c'
     rw [List.getElem?_map,Array.getElem?_toList,hc,hx];rfl⟩) (fun i H ⟨vs,c,l⟩=>by
    have c':vs=z.cps.toList.map fun c=>V.str ⟨#[c]⟩:=c
    subst c'
    show z.cps.size≤i
    simp at l;omega)
  cases ha:z.cps.all (·<128)
  ·exact wpAny_pyIter_wide ha (pi_one (tk:=s1.toks) I1 _ (key _ "str_iterator" (.inr rfl)) ⟨_,Heap.get?_push_size _ rfl,rfl,rfl⟩ hR)
  ·exact wpAny_pyIter_ascii ha (pi_one (tk:=s1.toks) I1 _ (key _ "str_ascii_iterator" (.inl rfl)) ⟨_,Heap.get?_push_size _ rfl,rfl,rfl⟩ hR)
set_option maxHeartbeats 1000000 in
theorem aaN {v:Value} {o:Obj} {Hk:Heap→Prop} (B:Begins v o Hk) :
  Meets (Builtin.«enumerate.__new__» ⟨[.type "enumerate",v],[]⟩) (fun _ R s=>Hk s.heap∧
   R (.ok (.ret (.ref (s.heap.push o).objs.size))) { s with heap:=(s.heap.push o).push { cls:=.type "enumerate",data:=.fields #[.none,.bool false,.ref s.heap.objs.size,rawInt 0,.none,.none] } }):=
 .of_wp fun prog w A R s hh=>by
  obtain ⟨hp,g,d,tk,os⟩:=s
  obtain ⟨h1,hR⟩:=hh
  have am6:=sub_enumerate
  have go:∀ {A':Around} {E':Value→Shared→Prop} {Q':Value→Shared→Prop},Q' (.ref hp.objs.size) ⟨hp.push o,g,d,tk,os⟩→wpAny (model prog w) A' (pyIter v) Q' E' ⟨hp,g,d,tk,os⟩:=fun q=>B.iter prog w _ _ ⟨hp,g,d,tk,os⟩ _ h1 q
  wp_walk using go
  refine wpAny_stack_any fun _=>wpAny_pure ?_
  split
  ·rename_i c _ _ _ _ _
   cases (c==Value.type "enumerate")<;>(wp_walk using go;exact ⟨_,rfl,hR⟩)
  ·wp_walk using go;exact ⟨_,rfl,hR⟩
theorem adb {prog:Program} {w:World} {A:Around} {E:Value→Shared→Prop} {s:Shared} {v:Value} {o:Obj} {Hk:Heap→Prop} {Q:Value→Shared→Prop} (B:Begins v o Hk) (h1:Hk s.heap)
  (h:∀ h',IsEnum h' (s.heap.objs.size+1) s.heap.objs.size 0 .none→h'.get? s.heap.objs.size=some o→(∀ b o,s.heap.get? b=some o→h'.get? b=some o)→Q (.ref (s.heap.objs.size+1)) { s with heap:=h' }) :
  wpAny (model prog w) A (call (.type "enumerate") [v]) Q E s:=by
 refine callType_new F.called_enumerate (by decide) (F.typeCall_enumerate_1 _) (F.newCall_enumerate_1 _) (fun obj=>F.args_object_init_2 obj _) F.entry_enumerate_new (aaN B) ⟨h1,?_⟩
 have hz:(s.heap.push o).objs.size=s.heap.objs.size+1:=Heap.size_push ..
 show _∧_
 rw [hz]
 have he:IsEnum ((s.heap.push o).push ⟨.type "enumerate",none,.fields #[.none,.bool false,.ref s.heap.objs.size,rawInt 0,.none,.none], #[]⟩) (s.heap.objs.size+1) s.heap.objs.size 0 .none:=by
  have q:=Heap.get?_push_size (s.heap.push o) (o:=⟨.type "enumerate",none,.fields #[.none,.bool false,.ref s.heap.objs.size,rawInt 0,.none,.none], #[]⟩) rfl
  rwa [hz] at q
 exact ⟨⟨_,he,rfl⟩,h _ he (Heap.get?_push_of_some _ (Heap.get?_push_size _ B.free)) fun b o x=>Heap.get?_push_of_some _ (Heap.get?_push_of_some _ x)⟩
theorem ab6 {X:Cx} {e:Expr} {ta:TA} {p pos uQ:Pos} {t7:List Expr} {kk:Nat} (hg:Gl X "enumerate") (hm:X.mg "enumerate"=none) (ha:PA X [e] ta) (hs:starEach [e] X.env=[(false,eval e X.env)]:=by rfl) :
  PI X (.Tuple t7 kk uQ) (.Call (.Name "enumerate" p) [e] [] pos) (agW X.K 0 ta):=by
 refine ⟨fun pins s σ H R I h=> ?_⟩
 refine Call_ (ld_blt I hg hm boot_enumerate (PyProof.Rows.callWith_type1 (thn (ha.run pos pins s σ H _ I h) fun us s1 ⟨xs,H1,I1,r1,q1⟩=> ?_) hs rfl))
 obtain ⟨q,vs,ex,c1,hR⟩:=q1
 subst ex
 cases r1 with
 | cons ru rr=>
  cases rr
  obtain ⟨o1,K1,B1,k1,l1,a1⟩:=Kq.begins I1 c1 ru
  exact adb B1 k1 fun h' he g1 hk=>Kg I1 c1 l1 a1 he g1 hk hR
section
variable {G:bB} {ρ ρ':List Addr} {H H':Hp} {S:Hs}
def WK (G:bB) (ρ0:List Addr) (H0:Hp) (q:Kq) (lk:List Lk) (xs:List Vl):Prop:=∀ ρ H S,jV ρ0 H0 ρ H→bf G ρ H S→cP lk S→∃ vs,q.cur G.K H vs∧au G ρ H xs vs
theorem WK.step {q:Kq} {lk:List Lk} {xs:List Vl} (h:WK G ρ H q lk xs) (a:jV ρ H ρ' H'):WK G ρ' H' q lk xs:=fun ρ2 H2 S b s l=>h ρ2 H2 S (a.trans b) s l
theorem walk_of (s:bf G ρ H S) {x:Vl} {v:V} {lk:List Lk} {xs:List Vl} (h:VR G ρ H x v) (e:lZ S x=some (lk,xs)):∃ q:Kq,v=q.v∧(∃ vs,q.cur G.K H vs)∧WK G ρ H q lk xs:=by
 cases x with
 | tup ys=>
  simp only [lZ,Option.some.injEq,Prod.mk.injEq] at e
  obtain ⟨rfl,rfl⟩:=e
  simp only [VR] at h
  obtain ⟨a,vs,rfl,h1,h2⟩:=h
  exact ⟨.tup a,rfl,⟨vs,h1.sq⟩,fun ρ' H' S' st _ _=>⟨vs,(h1.fQ st).sq,au.fQ st _ _ h2⟩⟩
 | lst ys=>
  simp only [lZ,Option.some.injEq,Prod.mk.injEq] at e
  obtain ⟨rfl,rfl⟩:=e
  simp only [VR] at h
  obtain ⟨a,vs,rfl,h1,h2⟩:=h
  exact ⟨.lst a,rfl,⟨vs,h1.sq⟩,fun ρ' H' S' st _ _=>⟨vs,(h1.fQ st).sq,au.fQ st _ _ h2⟩⟩
 | ref r=>
  simp only [lZ] at e
  split at e
  ·rename_i ys eo
   simp only [Option.some.injEq,Prod.mk.injEq] at e
   obtain ⟨rfl,rfl⟩:=e
   obtain ⟨a,rfl,ha,vs,h1,h2⟩:=s.ref h eo
   refine ⟨.lst a,rfl,⟨vs,SqL.of h1⟩,fun ρ' H' S' st s' l=> ?_⟩
   have l1:=l (r,.lst ys) (by simp)
   have hx:=VR.fQ st _ _ h
   obtain ⟨a',e',_,vs',h1',h2'⟩:=s'.ref hx l1
   cases e'
   exact ⟨vs',SqL.of h1',h2'⟩
  ·cases e
 | _=>simp only [lZ] at e;cases e
theorem au.chars (z:Str):au G ρ H (iI z) (z.cps.toList.map fun c=>V.str ⟨#[c]⟩):=by
 unfold iI
 induction z.cps.toList with
 | nil=>exact au.nil
 | cons c cs ih=>exact au.cons (by simp only [VR]) ih
structure JW (G:bB) (J:It) (ρ0:List Addr) (H0:Hp) (lk:List Lk) (xs:List Vl):Prop where
 go:∀ ρ H S i x,jV ρ0 H0 ρ H→bf G ρ H S→cP lk S→xs[i]? =some x→J.go i H∧∀ v H',J.yld i H v H'→Same H H'∧VR G ρ H' x v
 stop:∀ ρ H S,jV ρ0 H0 ρ H→bf G ρ H S→cP lk S→J.stop xs.length H
theorem au.at_ {xs:List Vl} {vs:List V} {i:Nat} {x:Vl} {v:V} (h:au G ρ H xs vs) (e:xs[i]? =some x) (e':vs[i]? =some v):VR G ρ H x v:=by
 obtain ⟨w,h1,h2⟩:=h.get e
 rw [e'] at h1;cases h1
 exact h2
theorem aJ {α:Type} {xs:List α} {i:Nat} {x:α} (e:xs[i]? =some x):i<xs.length:=(List.getElem?_eq_some_iff.mp e).1
theorem JW.seq {q:Kq} {lk:List Lk} {xs:List Vl} (w:WK G ρ H q lk xs):JW G (Itq G.K q) ρ H lk xs where
 go:=fun ρ' H' S i x st s l e=>by
  obtain ⟨vs,c,r⟩:=w ρ' H' S st s l
  refine ⟨⟨vs,c,by rw [← r.length];exact aJ e⟩,fun v H2 ⟨eH,y⟩=> ?_⟩
  subst eH
  exact ⟨Same.refl _,r.at_ e (y vs c)⟩
 stop:=fun ρ' H' S st s l=>by
  obtain ⟨vs,c,r⟩:=w ρ' H' S st s l
  exact ⟨vs,c,r.length⟩
theorem Em (s:bf G ρ H S) {T:Addr} {x y:V} {a b:Vl} (hT:H T=none) (ha:VR G ρ H a x) (hb:VR G ρ H b y):Same H (upd H T (.tup [x,y]))∧VR G ρ (upd H T (.tup [x,y])) (.tup [a,b]) (.ref T):=by
 have sm:Same H (upd H T (.tup [x,y])):=fK hT
 refine ⟨sm,?_⟩
 simp only [VR]
 exact ⟨T,[x,y],rfl,.inl ⟨.inl upd_same,s.free hT⟩,au.step (bu sm) _ _ (au.cons ha (au.cons hb au.nil))⟩
theorem W0:∀ {xs ys:List Vl} {i:Nat} {x:Vl},(Cm xs ys)[i]? =some x→∃ a b,xs[i]? =some a∧ys[i]? =some b∧x=.tup [a,b]
 | [],_,_,_,e=>by simp [Cm] at e
 | _::_,[],_,_,e=>by simp [Cm] at e
 | x::xs,y::ys,0,z,e=>by simp [Cm] at e;exact ⟨x,y,rfl,rfl,e.symm⟩
 | x::xs,y::ys,i+1,z,e=>by
  simp only [Cm,List.getElem?_cons_succ] at e ⊢
  exact W0 e
theorem PN:∀ {xs ys:List Vl},(Cm xs ys).length=min xs.length ys.length
 | [],_=>by simp [Cm]
 | _::_,[]=>by simp [Cm]
 | x::xs,y::ys=>by simp only [Cm,List.length_cons,PN];omega
theorem uY {l1 l2:List Lk} (h:cP (l1++l2) S):cP l1 S∧cP l2 S:=⟨fun p hp=>h p (List.mem_append_left _ hp),fun p hp=>h p (List.mem_append_right _ hp)⟩
theorem JW.zip {q r:Kq} {l1 l2:List Lk} {xs ys:List Vl} (w1:WK G ρ H q l1 xs) (w2:WK G ρ H r l2 ys):JW G (aiU G.K q r) ρ H (l1++l2) (Cm xs ys) where
 go:=fun ρ' H' S i x st s l e=>by
  obtain ⟨vs,c1,r1⟩:=w1 ρ' H' S st s (uY l).1
  obtain ⟨ws,c2,r2⟩:=w2 ρ' H' S st s (uY l).2
  obtain ⟨a,b,e1,e2,rfl⟩:=W0 e
  refine ⟨⟨vs,ws,c1,c2,by rw [← r1.length];exact aJ e1,by rw [← r2.length];exact aJ e2⟩,fun v H2 ⟨T,x,y,ev,hT,eH,y1,y2⟩=> ?_⟩
  subst ev eH
  exact Em s hT (r1.at_ e1 (y1 vs c1)) (r2.at_ e2 (y2 ws c2))
 stop:=fun ρ' H' S st s l=>by
  obtain ⟨vs,c1,r1⟩:=w1 ρ' H' S st s (uY l).1
  obtain ⟨ws,c2,r2⟩:=w2 ρ' H' S st s (uY l).2
  have:=r1.length
  have:=r2.length
  have:= @PN xs ys
  exact ⟨vs,ws,c1,c2,by omega,by omega,by omega⟩
theorem pD:∀ {xs:List Vl} {k:Int} {i:Nat} {x:Vl},(iH k xs)[i]? =some x→∃ a,xs[i]? =some a∧x=.tup [.int (k+(i:Nat)),a]
 | [],_,_,_,e=>by simp [iH] at e
 | x::xs,k,0,z,e=>by simp [iH] at e;exact ⟨x,rfl,by rw [← e];simp⟩
 | x::xs,k,i+1,z,e=>by
  simp only [iH,List.getElem?_cons_succ] at e ⊢
  obtain ⟨a,h1,h2⟩:=pD e
  refine ⟨a,h1,?_⟩
  rw [h2]
  have:k+1+(i:Nat)=k+((i+1:Nat):Int):=by omega
  rw [this]
theorem uV:∀ {xs:List Vl} {k:Int},(iH k xs).length=xs.length
 | [],_=>rfl
 | x::xs,k=>by simp only [iH,List.length_cons,uV]
theorem JW.Y6 {q:Kq} {lk:List Lk} {xs:List Vl} {k:Int} (w:WK G ρ H q lk xs):JW G (abR G.K k q) ρ H lk (iH k xs) where
 go:=fun ρ' H' S i x st s l e=>by
  obtain ⟨vs,c,r⟩:=w ρ' H' S st s l
  obtain ⟨a,e1,rfl⟩:=pD e
  refine ⟨⟨vs,c,by rw [← r.length];exact aJ e1⟩,fun v H2 ⟨T,x,ev,hT,eH,y⟩=> ?_⟩
  subst ev eH
  exact Em s hT (by simp only [VR]) (r.at_ e1 (y vs c))
 stop:=fun ρ' H' S st s l=>by
  obtain ⟨vs,c,r⟩:=w ρ' H' S st s l
  exact ⟨vs,c,by rw [uV];exact r.length⟩
theorem Mz:∀ {n:Nat} {lo:Int} {i:Nat} {x:Vl},(jg lo n)[i]? =some x→i<n∧x=.int (lo+(i:Nat))
 | 0,_,_,_,e=>by simp [jg] at e
 | n+1,lo,0,z,e=>by simp [jg] at e;exact ⟨by omega,by rw [← e];simp⟩
 | n+1,lo,i+1,z,e=>by
  simp only [jg,List.getElem?_cons_succ] at e
  obtain ⟨h1,h2⟩:=Mz e
  refine ⟨by omega,?_⟩
  rw [h2]
  have:lo+1+(i:Nat)=lo+((i+1:Nat):Int):=by omega
  rw [this]
theorem iw:∀ {n:Nat} {lo:Int},(jg lo n).length=n
 | 0,_=>rfl
 | n+1,lo=>by simp only [jg,List.length_cons,iw]
theorem JW.rng {lo:Int} {n:Nat}:JW G (Itr lo n) ρ H [] (jg lo n) where
 go:=fun ρ' H' S i x st s l e=>by
  obtain ⟨h1,rfl⟩:=Mz e
  refine ⟨h1,fun v H2 ⟨eH,ev⟩=> ?_⟩
  subst eH ev
  exact ⟨Same.refl _,by simp only [VR]⟩
 stop:=fun ρ' H' S st s l=>by
  show n≤_
  rw [iw];exact Nat.le_refl _
end
section
variable (G:bB) (M:aF) (W:WX)
def tS (c:Src):TI:=fun σ H R=>∃ ρ η S,bf G ρ H S∧ER G ρ H η σ∧PR G W σ ρ H (pC M c η S) (fun ρ1 H1 p _=>∀ J,JW G J ρ1 H1 p.1 p.2→R J H1)
end
theorem _root_.L2.PI.imp {X:Cx} {tg e:Expr} {t t':TI} (h:PI X tg e t) (k:∀ σ H Q,t' σ H Q→t σ H Q):PI X tg e t':=⟨fun pins s σ H Q I q=>h.run pins s σ H Q I (k σ H Q q)⟩
section
variable {G:bB} {M:aF} {W:WX} {X:Cx} {k:Nat} {tg a b:Expr} {ca cb:E} {p pos uQ:Pos} {t7:List Expr} {kk:Nat}
theorem eX (g:Good G k X) (ha:PE X a (tE G M W ca)):PI X tg a (tS G M W (.sq ca)):=(ZG ha).imp fun σ H R ⟨ρ,η,S,s,r,h⟩=>⟨ρ,η,S,s,r,by
 simp only [pC] at h
 refine h.bind.mono fun ρ1 H1 x S1 st s1 h1 v hv=> ?_
 obtain ⟨⟨lk,xs⟩,e,h2⟩:=h1.gY
 obtain ⟨q,rfl,hq,w⟩:=walk_of s1 hv e
 rw [g.K]
 exact ⟨q,rfl,hq,h2.here s1 _ (JW.seq w)⟩⟩
theorem Aa (g:Good G k X) (ha:PE X a (tE G M W ca)):PI X tg a (tS G M W (.chars ca)):=(ZG ha).imp fun σ H R ⟨ρ,η,S,s,r,h⟩=>⟨ρ,η,S,s,r,by
 simp only [pC] at h
 refine h.bind.mono fun ρ1 H1 x S1 st s1 h1 v hv=> ?_
 cases x with
 | str z=>
  simp only [VR] at hv
  subst hv
  rw [g.K]
  exact ⟨.txt z,rfl,⟨_,rfl⟩,h1.here s1 _ (JW.seq fun ρ' H' S' st _ _=>⟨_,rfl,au.chars z⟩)⟩
 | _=>exact h1.elim⟩
theorem PR.re1 {α β γ:Type} {σ:L2.St} {ρ:List Addr} {H:Hp} {r:Res α} {f:α→Hs→Res β} {gg:α→γ} {ok:List Addr→Hp→β→Hs→Prop} {ok':List Addr→Hp→γ→Hs→Prop} (h:PR G W σ ρ H (r.bind f) ok)
  (kk:∀ ρ1 H1 x S1,Step ρ H ρ1 H1→bf G ρ1 H1 S1→PR G W σ ρ1 H1 (f x S1) ok→ok' ρ1 H1 (gg x) S1):PR G W σ ρ H (r.bind fun x S1=>.ok (gg x) S1) ok':=by
 cases r with
 | ok x S=>exact fun ρ1 H1 st s=>kk ρ1 H1 x S st s (PR.step h st)
 | exc x S=>exact h
 | bad=>exact h
theorem afM {η:Sg} {S:Hs}:evs M (.cons ca .nil) η S=(ev M ca η S).bind fun x S1=>.ok [x] S1:=by simp only [evs,Res.bind]
theorem akC {η:Sg} {S:Hs}:evs M (.cons ca (.cons cb .nil)) η S=(ev M ca η S).bind fun x S1=>(ev M cb η S1).bind fun y S2=>.ok [x,y] S2:=by
 simp only [evs]
 cases ev M ca η S with
 | ok x S1=>simp only [Res.bind];cases ev M cb η S1<;>rfl
 | exc x S1=>rfl
 | bad=>rfl
theorem jO (hg:Gl X "range") (hm:X.mg "range"=none) (ha:PA X [a] (tA G M W (.cons ca .nil))) (hs:starEach [a] X.env=[(false,eval a X.env)]:=by rfl):PI X tg (.Call (.Name "range" p) [a] [] pos) (tS G M W (.xY ca)):=(pi_range1 hg hm ha hs).imp fun σ H R ⟨ρ,η,S,s,r,h⟩=>⟨ρ,η,S,s,r,by
 simp only [pC] at h
 rw [afM]
 refine PR.re1 h fun ρ1 H1 x S1 st s1 h1 vs hv=> ?_
 cases x with
 | int j=>
  simp only at h1
  split at h1
  ·rename_i hj
   simp only [au,VR] at hv
   obtain ⟨v,r,rfl,rfl,rfl⟩:=hv
   exact ⟨j,rfl,hj.1,hj.2,h1.here s1 _ JW.rng⟩
  ·exact h1.elim
 | _=>exact h1.elim⟩
theorem aex (g:Good G k X) (hg:Gl X "enumerate") (hm:X.mg "enumerate"=none) (ha:PA X [a] (tA G M W (.cons ca .nil))) (hs:starEach [a] X.env=[(false,eval a X.env)]:=by rfl):PI X (.Tuple t7 kk uQ) (.Call (.Name "enumerate" p) [a] [] pos) (tS G M W (.Y6 ca 0)):=(ab6 hg hm ha hs).imp fun σ H R ⟨ρ,η,S,s,r,h⟩=>⟨ρ,η,S,s,r,by
 simp only [pC] at h
 rw [afM]
 refine PR.re1 h fun ρ1 H1 x S1 st s1 h1 vs hv=> ?_
 simp only [au] at hv
 obtain ⟨v,r,rfl,hv1,rfl⟩:=hv
 obtain ⟨⟨l1,xs⟩,e1,h2⟩:=(PR.bind h1).gY
 obtain ⟨q,rfl,⟨vs,c1⟩,w1⟩:=walk_of s1 hv1 e1
 rw [g.K];exact ⟨q,vs,rfl,c1,(h2.here s1).here s1 _ (JW.Y6 w1)⟩⟩
end
end Oz
namespace Oz
open PySem L2 PyProof.Rows
theorem _root_.L2.PG.imp {X:Cx} {e:Expr} {t t':TG} (h:PG X e t) (k:∀ v σ H Q,t' v σ H Q→t v σ H Q):PG X e t':=⟨fun pins s σ H v u Q I r q=>h.run pins s σ H v u Q I r (k v σ H Q q)⟩
theorem _root_.L2.PGs.imp {X:Cx} {e:List Expr} {t t':TGs} (h:PGs X e t) (k:∀ v σ H Q,t' v σ H Q→t v σ H Q):PGs X e t':=⟨fun pins s σ H v u Q I r q=>h.run pins s σ H v u Q I r (k v σ H Q q)⟩
section
variable {G:bB} {ρ ρ':List Addr} {H H':Hp} {S:Hs}
theorem ER.set {η:Sg} {σ:L2.St} (h:ER G ρ H η σ) (i:Nat) {x:Vl} {v:V} (hv:VR G ρ H x v):ER G ρ H (η.set i (some x)) (σ.set i (some v)) where
 len:=by rw [List.length_set,List.length_set];exact h.len
 at_:=fun j y e=>by
  rw [List.getElem?_set] at e ⊢
  split at e
  ·rename_i hij
   split at e
   ·rename_i hl
    simp only [Option.some.injEq] at e
    subst e
    rw [if_pos hij,if_pos (by rw [← h.len];exact hl)]
    exact ⟨v,rfl,hv⟩
   ·cases e
  ·rename_i hij
   rw [if_neg hij]
   exact h.at_ j y e
theorem ER.ajR {η:Sg} {σ:L2.St} (h:ER G ρ H η σ) (i:Nat) {w:Option V}:ER G ρ H (η.set i none) (σ.set i w) where
 len:=by rw [List.length_set,List.length_set];exact h.len
 at_:=fun j y e=>by
  rw [List.getElem?_set] at e ⊢
  split at e
  ·split at e<;>simp at e
  ·rename_i hij
   rw [if_neg hij]
   exact h.at_ j y e
mutual
def Tg.slots:Tg→List Nat
 | .nm i=>[i]
 | .tp ts=>ts.slots
def Wg.slots:Wg→List Nat
 | .nil=>[]
 | .cons t ts=>t.slots++ts.slots
end
def Off (is:List Nat) (σ σ':L2.St):Prop:=σ'.length=σ.length∧∀ i,i∉is→σ'[i]? =σ[i]?
theorem Off.trans {is js:List Nat} {σ σ' σ'':L2.St} (a:Off is σ σ') (b:Off js σ' σ''):Off (is++js) σ σ'':=
 ⟨b.1.trans a.1,fun i h=>(b.2 i fun z=>h (List.mem_append_right _ z)).trans (a.2 i fun z=>h (List.mem_append_left _ z))⟩
def tG (G:bB) (t:Tg):TG:=fun v σ H Q=>∃ ρ S η x η1,bf G ρ H S∧ER G ρ H η σ∧VR G ρ H x v∧aZ t x η=some η1∧∀ σ',Off t.slots σ σ'→ER G ρ H η1 σ'→Q σ' H
def tGs (G:bB) (t:Wg):TGs:=fun vs σ H Q=>∃ ρ S η xs η1,bf G ρ H S∧ER G ρ H η σ∧au G ρ H xs vs∧lV t xs η=some η1∧∀ σ',Off t.slots σ σ'→ER G ρ H η1 σ'→Q σ' H
def Wg.len:Wg→Nat
 | .nil=>0
 | .cons _ ts=>ts.len+1
theorem wQ:∀ {ts:Wg} {xs:List Vl} {η η1:Sg},lV ts xs η=some η1→xs.length=ts.len
 | .nil,[],_,_,_=>rfl
 | .nil,_::_,_,_,e=>by simp [lV] at e
 | .cons t ts,[],_,_,e=>by simp [lV] at e
 | .cons t ts,x::xs,η,η1,e=>by
  simp only [lV] at e
  split at e
  ·simp only [List.length_cons,Wg.len,wQ e]
  ·cases e
variable {X:Cx} {k:Nat} {pos:Pos}
theorem ajt (g:Good G k X) (i:Nat) {x:Str} (hi:X.N[i]? =some x) (hx:Loc X.env.scope x) (hf:X.fn x=true∨X.env.scope.names.lookup x=some .local:=by first | exact .inl rfl | exact .inr rfl | assumption):PG X (.Name x pos) (tG G (.nm i)):=(pg_name g.nd hi hx hf).imp fun v σ H Q ⟨ρ,S,η,x,η1,s,r,hv,hb,q⟩=>by
 simp only [aZ,Option.some.injEq] at hb
 subst hb
 refine q _ ⟨List.length_set,fun j hj=> ?_⟩ (r.set i hv)
 rw [List.getElem?_set_ne fun e=>hj (by rw [← e];simp [Tg.slots])]
theorem fD:PGs X [] (tGs G .nil):=pgs_nil.imp fun vs σ H Q ⟨ρ,S,η,xs,η1,s,r,hv,hb,q⟩=>by
 cases xs with
 | nil=>
  simp only [lV,Option.some.injEq] at hb
  subst hb
  simp only [au] at hv
  exact ⟨hv,q _ ⟨rfl,fun _ _=>rfl⟩ r⟩
 | cons x xs=>simp [lV] at hb
theorem bj {e:Expr} {es:List Expr} {t:Tg} {ts:Wg} (h1:PG X e (tG G t)) (h2:PGs X es (tGs G ts))
  (hs:(assignEach (e::es) X.env).map (·.2)=assign e X.env::(assignEach es X.env).map (·.2):=by rfl):PGs X (e::es) (tGs G (.cons t ts)):=(pgs_cons h1 h2 hs).imp fun vs σ H Q ⟨ρ,S,η,xs,η1,s,r,hv,hb,q⟩=>by
 cases xs with
 | nil=>simp [lV] at hb
 | cons x xs=>
  simp only [au] at hv
  obtain ⟨v,rr,rfl,hv1,hv2⟩:=hv
  simp only [lV] at hb
  split at hb
  ·rename_i η2 ZJ
   exact ⟨v,rr,rfl,ρ,S,η,x,η2,s,r,hv1,ZJ,fun σ' o1 r'=>⟨ρ,S,η2,xs,η1,s,r',hv2,hb,fun σ'' o2 r''=>q σ'' (by simp only [Wg.slots];exact o1.trans o2) r''⟩⟩
  ·cases hb
theorem fB [bT G X] (g:Good G k X) {es:List Expr} {kk:Nat} {ts:Wg} (h:PGs X es (tGs G ts)) (hn:(assignEach es X.env).length=ts.len:=by rfl) (Ru:(assignEach es X.env).findIdx? (·.1)=none:=by rfl):PG X (.Tuple es kk pos) (tG G (.tp ts)):=by
 refine ⟨fun pins s σ H v u Q I r ⟨ρ,S,η,x,η1,s0,re,hv,hb,q⟩=> ?_⟩
 cases x with
 | tup xs=>
  simp only [aZ] at hb
  simp only [VR] at hv
  obtain ⟨a,vs,rfl,h1,h2⟩:=hv
  exact (pg_tup g.calm h hn Ru).run pins s σ H _ u Q I r ⟨a,vs,rfl,by rw [g.K];exact h1.sq,by rw [← h2.length];exact wQ hb,ρ,S,η,xs,η1,s0,re,h2,hb,q⟩
 | lst xs=>
  simp only [aZ] at hb
  simp only [VR] at hv
  obtain ⟨a,vs,rfl,h1,h2⟩:=hv
  exact (pg_unl g.calm h hn Ru).run pins s σ H _ u Q I r ⟨a,vs,rfl,h1.sq,by rw [← h2.length];exact wQ hb,ρ,S,η,xs,η1,s0,re,h2,hb,q⟩
 | _=>simp only [aZ] at hb;cases hb
end
section
variable (G:bB) (M:aF) (W:WX)
def PQ (ρ:List Addr) (H:Hp) (D:Ends):Out→Prop
 | .nx η S=>∀ ρ' H' σ',Step ρ H ρ' H'→bf G ρ' H' S→ER G ρ' H' η σ'→D.nx σ' H'
 | .brk η S=>∀ ρ' H' σ',Step ρ H ρ' H'→bf G ρ' H' S→ER G ρ' H' η σ'→D.bk σ' H'
 | .cnt η S=>∀ ρ' H' σ',Step ρ H ρ' H'→bf G ρ' H' S→ER G ρ' H' η σ'→D.ct σ' H'
 | .ret r S=>∀ ρ' H',Step ρ H ρ' H'→bf G ρ' H' S→okR G H D.rt ρ' H' r S
 | .exc x η S=>∀ ρ' H' σ',Step ρ H ρ' H'→bf G ρ' H' S→ER G ρ' H' η σ'→XW G W σ' ρ' H' x
 | .bad=>False
def tC (c:C):TS:=fun D σ H=>∃ ρ η S,bf G ρ H S∧ER G ρ H η σ∧PQ G W ρ H D (aP M c η S)
def vM (c:Cs):TS:=fun D σ H=>∃ ρ η S,bf G ρ H S∧ER G ρ H η σ∧PQ G W ρ H D (exec M c η S)
end
section
variable {G:bB} {M:aF} {W:WX} {X:Cx} {k:Nat} {pos:Pos} {ρ ρ':List Addr} {H H':Hp} {S S':Hs} {D D':Ends} {o:Out} {st:Stmt} {rest:List Stmt} {c:C} {cs:Cs}
theorem okR.step {Q:VK} {ρ2:List Addr} {H2:Hp} {r:Rv} {T:Hs} (s:bf G ρ H S) (a:Step ρ H ρ' H') (s':bf G ρ' H' S') (h:okR G H Q ρ2 H2 r T):okR G H' Q ρ2 H2 r T:=by
 cases r with
 | val x=>exact h
 | frs o=>exact fun p hp=>h p (none_of s s' a hp)
theorem PQ.step (s:bf G ρ H S) (a:Step ρ H ρ' H') (s':bf G ρ' H' S') (h:PQ G W ρ H D o):PQ G W ρ' H' D o:=by
 cases o with
 | nx η T=>exact fun ρ2 H2 σ2 b=>h ρ2 H2 σ2 (a.trans b)
 | brk η T=>exact fun ρ2 H2 σ2 b=>h ρ2 H2 σ2 (a.trans b)
 | cnt η T=>exact fun ρ2 H2 σ2 b=>h ρ2 H2 σ2 (a.trans b)
 | exc x η T=>exact fun ρ2 H2 σ2 b=>h ρ2 H2 σ2 (a.trans b)
 | ret r T=>exact fun ρ2 H2 b s2=>okR.step s a s' (h ρ2 H2 (a.trans b) s2)
 | bad=>exact h
theorem PQ.out {α:Type} {r:Res α} {η:Sg} {σ:L2.St} {f:α→Hs→Out} (s:bf G ρ H S) (er:ER G ρ H η σ) (h:PQ G W ρ H D (r.out η f)):PR G W σ ρ H r fun ρ1 H1 a S1=>PQ G W ρ1 H1 D (f a S1):=by
 cases r with
 | ok a S1=>exact fun ρ1 H1 st s1=>PQ.step s st s1 h
 | exc x S1=>exact fun ρ1 H1 st s1=>h ρ1 H1 σ st s1 (er.step st)
 | bad=>exact h
theorem PSs.aO:PSs X [] (vM G M W .nil):=pss_nil.imp fun D σ H ⟨ρ,η,S,s,r,h⟩=>by
 simp only [exec] at h
 exact h ρ H σ (Step.refl _ _) s r
theorem PSs.ao (h1:PS X st (tC G M W c)) (h2:PSs X rest (vM G M W cs)):PSs X (st::rest) (vM G M W (.cons c cs)):=(pss_cons h1 h2).imp fun D σ H ⟨ρ,η,S,s,r,h⟩=>⟨ρ,η,S,s,r,by
 simp only [exec] at h
 cases e:aP M c η S with
 | nx η1 S1=>
  rw [e] at h
  exact fun ρ1 H1 σ1 st s1 r1=>⟨ρ1,η1,S1,s1,r1,PQ.step s st s1 h⟩
 | _=>rw [e] at h;exact h⟩
theorem adg:PS X st (tC G M W .bad):=ps_never.imp fun D σ H ⟨ρ,η,S,s,r,h⟩=>by
 simp only [aP] at h;exact h
variable {e:Expr} {ce:E} {cf:F} {tg:Expr} {t:Tg}
theorem aG (he:PE X e (tE G M W ce)) (hg:PG X tg (tG G t)) (hs:swapsWithSole [tg] e pos.line X.env=pure false:=by rfl) (hw:swappedStores [tg] e X.env=pure none:=by rfl)
  (h1:(assignEach [tg] X.env).map (·.2)=[assign tg X.env]:=by rfl):PS X (.Assign [tg] e pos) (tC G M W (.asg t ce)):=(ps_asg he hg hs hw h1).imp fun D σ H ⟨ρ,η,S,s,r,h⟩=>⟨ρ,η,S,s,r,by
 simp only [aP] at h
 refine (PQ.out s r h).mono fun ρ1 H1 x S1 st s1 h1 v hv=> ?_
 split at h1
 ·rename_i η1 e1
  exact ⟨ρ1,S1,η,x,η1,s1,r.step st,hv,e1,fun σ' _ r'=>h1 ρ1 H1 σ' (Step.refl _ _) s1 r'⟩
 ·exact h1.elim⟩
theorem fJ (he:PE X e (tE G M W ce)) (hs:swapsWith e none pos.line X.env=pure false:=by rfl):PS X (.Expr e pos) (tC G M W (.ex ce)):=(ps_expr he hs).imp fun D σ H ⟨ρ,η,S,s,r,h⟩=>⟨ρ,η,S,s,r,by
 simp only [aP] at h
 refine (PQ.out s r h).mono fun ρ1 H1 x S1 st s1 h1 v hv=> ?_
 exact h1 ρ1 H1 σ (Step.refl _ _) s1 (r.step st)⟩
theorem bh (he:PE X e (tE G M W ce)):PS X (.Return (some e) pos) (tC G M W (.ret ce)):=(ps_ret he).imp fun D σ H ⟨ρ,η,S,s,r,h⟩=>⟨ρ,η,S,s,r,by
 simp only [aP] at h
 refine (PQ.out s r h).mono fun ρ1 H1 x S1 st s1 h1 v hv=> ?_
 exact h1 ρ1 H1 (Step.refl _ _) s1 v hv⟩
theorem QG (he:PE X e (tF G M W cf)):PS X (.Return (some e) pos) (tC G M W (.Y0 cf)):=(ps_ret he).imp fun D σ H ⟨ρ,η,S,s,r,h⟩=>⟨ρ,η,S,s,r,by
 simp only [aP] at h
 cases eo:d9 M cf η S with
 | ok o S1=>rw [eo] at h;exact fun ρ1 H1 st s1=>h ρ1 H1 st s1
 | exc x S1=>rw [eo] at h;exact fun ρ1 H1 st s1=>h ρ1 H1 σ st s1 (r.step st)
 | bad=>rw [eo] at h;exact h⟩
theorem bL {ct:Expr} {a b:List Stmt} {cc:E} {ca cb:Cs} (hc:PT X ct (tQ G M W cc)) (ha:PSs X a (vM G M W ca)) (hb:PSs X b (vM G M W cb)):PS X (.If ct a b pos) (tC G M W (.ite cc ca cb)):=(ps_if hc ha hb).imp fun D σ H ⟨ρ,η,S,s,r,h⟩=>⟨ρ,η,S,s,r,by
 simp only [aP] at h
 refine (PQ.out s r h).mono fun ρ1 H1 x S1 st s1 h1=> ?_
 cases x with
 | bl b=>
  refine ⟨b,rfl,?_⟩
  cases b with
  | true=>exact ⟨ρ1,η,S1,s1,r.step st,h1⟩
  | false=>exact ⟨ρ1,η,S1,s1,r.step st,h1⟩
 | _=>exact h1.elim⟩
theorem d7 [bT G X] (g:Good G k X) {iter:Expr} {body:List Stmt} {qP:Src} {cb:Cs} (hp:PassesOwn (model X.prog X.w) X.A X.env X.xe) (hi:PI X tg iter (tS G M W qP)) (hg:PG X tg (tG G t)) (hb:PSs X body (vM G M W cb))
  (hs:∀ x,foldedSetIterable iter X.env x=pure x:=by intro _;rfl):PS X (.For tg iter body [] pos) (tC G M W (.for_ t qP cb)):=(ps_for hp g.calm hi hg hb hs).imp fun D σ H ⟨ρ,η,S,s,r,h⟩=>⟨ρ,η,S,s,r,by
 simp only [aP] at h
 refine (PQ.out s r h).mono fun ρ1 H1 p S1 st s1 h1 J jw=> ?_
 obtain ⟨lk,xs⟩:=p
 simp only at h1 jw
 refine ⟨fun i m σ' H'=>m=xs.length - i∧i≤xs.length∧∃ ρ' η' S',Step ρ1 H1 ρ' H'∧bf G ρ' H' S'∧ER G ρ' H' η' σ'∧PQ G W ρ' H' D (forL (fun η1 S2=>exec M cb η1 S2) t lk (xs.drop i) η' S'),⟨xs.length,by simp,Nat.zero_le _,ρ1,η,S1,Step.refl _ _,s1,r.step st,by simpa using h1⟩,?_⟩
 rintro i m σ' H' ⟨rfl,hi,ρ',η',S',gG,s',r',h'⟩
 by_cases hl:i<xs.length
 ·refine .inr ?_
  rw [List.drop_eq_getElem_cons hl] at h'
  simp only [forL] at h'
  split at h'
  ·rename_i l'
   split at h'
   ·exact h'.elim
   ·rename_i η2 e2
    obtain ⟨hgo,hy⟩:=jw.go ρ' H' S' i xs[i] gG.x s' l' (by simp [hl])
    refine ⟨hgo,fun σ3 H3=>∃ ρ3 η3 S3,Step ρ1 H1 ρ3 H3∧bf G ρ3 H3 S3∧ER G ρ3 H3 η3 σ3∧PQ G W ρ3 H3 D (forL (fun η1 S2=>exec M cb η1 S2) t lk (xs.drop (i+1)) η3 S3),fun σ3 H3 ⟨ρ3,η3,S3,a1,a2,a3,a4⟩=>⟨xs.length - (i+1),by omega,rfl,by omega,ρ3,η3,S3,a1,a2,a3,a4⟩,fun v H3 y=> ?_⟩
    obtain ⟨sm,hv⟩:=hy v H3 y
    have lN:Step ρ' H' ρ' H3:=bu sm
    have s3:=s'.same sm
    refine ⟨ρ',S',η',xs[i],η2,s3,r'.step lN,hv,e2,fun σ4 _ r4=>⟨ρ',η2,S',s3,r4,?_⟩⟩
    have h3:=PQ.step s' lN s3 h'
    cases eo:exec M cb η2 S' with
    | nx η4 S4=>rw [eo] at h3;exact fun ρ5 H5 σ5 b5 s5 r5=>⟨ρ5,η4,S4,(gG.trans lN).trans b5,s5,r5,PQ.step s3 b5 s5 h3⟩
    | cnt η4 S4=>rw [eo] at h3;exact fun ρ5 H5 σ5 b5 s5 r5=>⟨ρ5,η4,S4,(gG.trans lN).trans b5,s5,r5,PQ.step s3 b5 s5 h3⟩
    | brk η4 S4=>rw [eo] at h3;exact h3
    | ret rr T=>rw [eo] at h3;exact h3
    | exc x η4 T=>rw [eo] at h3;exact h3
    | bad=>rw [eo] at h3;exact h3
  ·exact h'.elim
 ·have e:i=xs.length:=by omega
  subst e
  rw [List.drop_length] at h'
  simp only [forL] at h'
  split at h'
  ·rename_i l'
   exact .inl ⟨jw.stop ρ' H' S' gG.x s' l',h' ρ' H' σ' (Step.refl _ _) s' r'⟩
  ·exact h'.elim⟩
theorem Yq (g:Good G k X) {ct:Expr} {body:List Stmt} {cc:E} {cb:Cs} (hp:PassesOwn (model X.prog X.w) X.A X.env X.xe) (hc:PT X ct (tQ G M W cc)) (hb:PSs X body (vM G M W cb)):PS X (.While ct body [] pos) (tC G M W (.whl cc cb)):=(ps_while hp hc hb).imp fun D σ H ⟨ρ,η,S,s,r,h⟩=>by
 simp only [aP] at h
 refine ⟨fun m σ' H'=>∃ ρ' η' S',bf G ρ' H' S'∧ER G ρ' H' η' σ'∧PQ G W ρ' H' D (Ew (fun η1 S2=>ev M cc η1 S2) (fun η1 S2=>exec M cb η1 S2) m η' S'),⟨M.fuel,ρ,η,S,s,r,h⟩,?_⟩
 rintro m σ' H' ⟨ρ',η',S',s',r',h'⟩
 cases m with
 | zero=>exact h'.elim
 | succ n=>
  simp only [Ew] at h'
  refine ⟨ρ',η',S',s',r',?_⟩
  cases e:ev M cc η' S' with
  | ok x S1=>
   rw [e] at h'
   cases x with
   | bl b=>
    cases b with
    | false=>exact fun ρ1 H1 bU s1=>⟨false,rfl,h' ρ1 H1 σ' bU s1 (r'.step bU)⟩
    | true=>
     refine fun ρ1 H1 bU s1=>⟨true,rfl,fun σ3 H3=>∃ ρ3 η3 S3,bf G ρ3 H3 S3∧ER G ρ3 H3 η3 σ3∧PQ G W ρ3 H3 D (Ew (fun η1 S2=>ev M cc η1 S2) (fun η1 S2=>exec M cb η1 S2) n η3 S3),fun σ3 H3 a=>⟨n,Nat.lt_succ_self _,a⟩,ρ1,η',S1,s1,r'.step bU,?_⟩
     have h3:=PQ.step s' bU s1 h'
     cases eo:exec M cb η' S1 with
     | nx η4 S4=>simp only [eo] at h3;exact fun ρ5 H5 σ5 b5 s5 r5=>⟨ρ5,η4,S4,s5,r5,PQ.step s1 b5 s5 h3⟩
     | cnt η4 S4=>simp only [eo] at h3;exact fun ρ5 H5 σ5 b5 s5 r5=>⟨ρ5,η4,S4,s5,r5,PQ.step s1 b5 s5 h3⟩
     | brk η4 S4=>simp only [eo] at h3;exact h3
     | ret rr T=>simp only [eo] at h3;exact h3
     | exc x η4 T=>simp only [eo] at h3;exact h3
     | bad=>simp only [eo] at h3;exact h3
   | _=>exact h'.elim
  | exc x S1=>rw [e] at h';exact fun ρ1 H1 bU s1=>h' ρ1 H1 σ' bU s1 (r'.step bU)
  | bad=>rw [e] at h';exact h'
theorem PQ.out2 {α γ δ:Type} {η:Sg} {σ:L2.St} {r:Res α} {r2:α→Hs→Res γ} {f:α→γ→Hs→Out} {gg:α→γ→δ} {ok':List Addr→Hp→δ→Hs→Prop} (s:bf G ρ H S) (er:ER G ρ H η σ) (h:PQ G W ρ H D (r.out η fun x S1=>(r2 x S1).out η (f x)))
  (kk:∀ ρ1 H1 x y S1,Step ρ H ρ1 H1→bf G ρ1 H1 S1→PQ G W ρ1 H1 D (f x y S1)→ok' ρ1 H1 (gg x y) S1):PR G W σ ρ H (r.bind fun x S1=>(r2 x S1).bind fun y S2=>.ok (gg x y) S2) ok':=by
 cases r with
 | ok x S1=>
  simp only [Res.out,Res.bind] at h ⊢
  cases e:r2 x S1 with
  | ok y S2=>rw [e] at h;exact fun ρ1 H1 st s2=>kk ρ1 H1 x y S2 st s2 (PQ.step s st s2 h)
  | exc z S2=>rw [e] at h;exact fun ρ1 H1 st s2=>h ρ1 H1 σ st s2 (er.step st)
  | bad=>rw [e] at h;exact h
 | exc z S1=>exact fun ρ1 H1 st s1=>h ρ1 H1 σ st s1 (er.step st)
 | bad=>exact h
theorem ade [bT G X] (g:Good G k X) {i j:Nat} {x y:Str} {a b:Expr} {ca cb:E} {px py pt:Pos} {kt k2:Nat} {pt2:Pos} (hi:X.N[i]? =some x) (hj:X.N[j]? =some y) (hij:i≠j)
  (hx:X.env.scope.names.lookup x=some .local) (hy:X.env.scope.names.lookup y=some .local) (ha:PA X [a,b] (tA G M W (.cons ca (.cons cb .nil))))
  (hw:swappedStores [.Tuple [.Name x px,.Name y py] kt pt] (.Tuple [a,b] k2 pt2) X.env=pure (some [x,y]))
  (hs:swapsWithSole [.Tuple [.Name x px,.Name y py] kt pt] (.Tuple [a,b] k2 pt2) pos.line X.env=pure false:=by rfl) :
  PS X (.Assign [.Tuple [.Name x px,.Name y py] kt pt] (.Tuple [a,b] k2 pt2) pos) (tC G M W (.par i j ca cb)):=(ps_par g.calm g.nd hi hj hij hx hy ha hw hs).imp fun D σ H ⟨ρ,η,S,s,r,h⟩=>⟨ρ,η,S,s,r,by
 simp only [aP] at h
 rw [akC]
 refine PQ.out2 s r h fun ρ1 H1 x y S1 st s1 h1 vs hv=> ?_
 simp only [au] at hv
 obtain ⟨v,r',rfl,hv1,w,r'',rfl,hv2,rfl⟩:=hv
 exact ⟨v,w,rfl,h1 ρ1 H1 _ (Step.refl _ _) s1 (((r.step st).set i hv1).set j hv2)⟩⟩
theorem bf.put {r:Nat} {a:Addr} {ho:HO} {o2:Ob} (s:bf G ρ H S) (hr:ρ[r]? =some a) (nf:∀ od u,H a≠some (.frz od u)) (h:OR G ρ (upd H a ho) a o2):Step ρ H ρ (upd H a ho)∧bf G ρ (upd H a ho) (S.set r o2):=by
 have st:Step ρ H ρ (upd H a ho):=⟨List.prefix_refl _,fun b o hb hn=>by
  rw [upd_ne fun e=>hn (by subst e;exact List.mem_of_getElem? hr)];exact hb,fun b hb=>.inl hb,o8 nf⟩
 refine ⟨st,by rw [List.length_set];exact s.len,s.nd,fun q o b hq hb=> ?_⟩
 by_cases e:q=r
 ·subst e
  rw [hr] at hb;cases hb
  rw [List.getElem?_set_self (by rw [← s.len];exact aJ hr)] at hq
  cases hq
  exact h
 ·rw [List.getElem?_set_ne (Ne.symm e)] at hq
  have ne:b≠a:=fun z=>e (by
   subst z
   exact (List.getElem?_inj (aJ hb) s.nd).mp (hb.trans hr.symm))
  have k:=s.at_ q o b hq hb
  cases o with
  | lst xs=>obtain ⟨vs,h1,h2⟩:=k;exact ⟨vs,by rw [upd_ne ne];exact h1,au.step st _ _ h2⟩
  | dct ks xs=>obtain ⟨vs,h1,h2,h3⟩:=k;exact ⟨vs,by rw [upd_ne ne];exact h1,h2,au.step st _ _ h3⟩
  | ins c ns xs=>obtain ⟨dx,vs,h1,h2,h3⟩:=k;exact ⟨dx,vs,by rw [upd_ne ne];exact h1,h2,au.step st _ _ h3⟩
  | Ac ks xs=>obtain ⟨vs,od,h1,h2,h3⟩:=k;exact ⟨vs,od,by rw [upd_ne ne];exact h1,h2,au.step st _ _ h3⟩
theorem QL {f:Str} {x:Vl} {v:V} (hv:VR G ρ H x v):∀ {ns:List Str} {xs:List Vl} {fs:List (Str × V)},fs.map (·.1)=ns→au G ρ H xs (fs.map (·.2))→(putF f v fs).map (·.1)=(Ez ns xs f x).1∧au G ρ H (Ez ns xs f x).2 ((putF f v fs).map (·.2))
 | [],[],[],_,_=>⟨rfl,au.cons hv au.nil⟩
 | [],_::_,[],_,h=>by simp only [List.map_nil,au] at h;obtain ⟨_,_,e,_⟩:=h;cases e
 | [],_,_::_,h,_=>by simp at h
 | n::ns,_,[],h,_=>by simp at h
 | n::ns,[],_::_,_,h=>by simp [au] at h
 | n::ns,y::xs,(m,w)::fs,h,k=>by
  simp only [List.map_cons,List.cons.injEq] at h
  obtain ⟨rfl,h⟩:=h
  simp only [List.map_cons,au] at k
  obtain ⟨v',r,e,k1,k2⟩:=k
  cases e
  simp only [putF,Ez]
  by_cases q:m=f
  ·rw [if_pos q,if_pos q]
   exact ⟨by simp [h],au.cons hv k2⟩
  ·rw [if_neg q,if_neg q]
   obtain ⟨i1,i2⟩:=QL hv h k2
   exact ⟨by simp [i1],au.cons k1 i2⟩
theorem QZ (g:Good G k X) {o value:Expr} {f:Str} {ca cv:E} {wJ:Pos} (hC:∀ c,Cls X.K (G.cl c)) (hf:∀ c,NoAttr X.K (G.cl c) f) (ha:PE X o (tE G M W ca)) (hv:PE X value (tE G M W cv)) (hs:swapsWith value (some (.Attribute o f wJ)) pos.line X.env=pure false) :
  PS X (.Assign [.Attribute o f wJ] value pos) (tC G M W (.fset ca f cv)):=(ps_fld ha hv hs).imp fun D σ H ⟨ρ,η,S,s,r,h⟩=>⟨ρ,η,S,s,r,by
 simp only [aP] at h
 refine (PQ.out s r h).mono fun ρ1 H1 y S1 st s1 h1 v hv=>⟨ρ1,η,S1,s1,r.step st,(PQ.out s1 (r.step st) h1).mono fun ρ2 H2 x S2 st2 s2 h2 w hw=> ?_⟩
 cases x with
 | ref n=>
  simp only at h2
  split at h2
  ·rename_i c ns vs eo
   split at h2
   ·rename_i hl
    obtain ⟨a,rfl,hr,dx,fs,e1,e2,e3⟩:=s2.ref hw eo
    obtain ⟨p1,p2⟩:=QL (f:=f) (hv.step st2) e2 e3
    have nf:∀ od u,H2 a≠some (.frz od u):=fun od u z=>by rw [e1] at z;cases z
    obtain ⟨lN,s3⟩:=bf.put (ho:=.ins (G.cl c) dx (putF f v fs)) (o2:=.ins c (Ez ns vs f y).1 (Ez ns vs f y).2) s2 hr nf (by
     have gG:Step ρ2 H2 ρ2 (upd H2 a (.ins (G.cl c) dx (putF f v fs))):=⟨List.prefix_refl _,fun b o hb hn=>by
      rw [upd_ne fun e=>hn (by subst e;exact List.mem_of_getElem? hr)];exact hb,fun b hb=>.inl hb,o8 nf⟩
     exact ⟨dx,_,upd_same,p1,au.step gG _ _ p2⟩)
    refine ⟨a,G.cl c,dx,fs,rfl,e1,hC c,hf c,?_,h2 ρ2 _ σ lN s3 ((r.step st).step (st2.trans lN))⟩
    rw [← e2,List.length_map] at hl;exact hl
   ·exact h2.elim
  ·exact h2.elim
 | _=>exact h2.elim⟩
theorem adU (g:Good G k X) {i:Nat} {x:Str} {op:Operator} {wJ:Pos} (hop:op=.Add∨op=.Sub) (hi:X.N[i]? =some x) (hx:Loc X.env.scope x) (he:PE X e (tE G M W ce)) (hf:X.fn x=true∨X.env.scope.names.lookup x=some .local:=by first | exact .inl rfl | exact .inr rfl | assumption) :
  PS X (.AugAssign (.Name x wJ) op e pos) (tC G M W (.aug i op ce)):=by
 rcases hop with rfl | rfl
 ·refine (ps_aug g.nd hi hx he ip_add hf).imp fun D σ H ⟨ρ,η,S,s,r,h⟩=> ?_
  simp only [aP] at h
  split at h
  ·rename_i x ex
   obtain ⟨v,e1,hv⟩:=r.at_ i x ex
   refine ⟨v,e1,ρ,η,S,s,r,(PQ.out s r h).mono fun ρ1 H1 y S1 st s1 h1 w hw=> ?_⟩
   cases x with
   | int a=>
    cases y with
    | int b=>
     simp only [VR] at hv hw
     subst hv hw
     exact ⟨a,b,rfl,rfl,h1 ρ1 H1 _ (Step.refl _ _) s1 ((r.step st).set i (by simp only [VR]))⟩
    | _=>exact h1.elim
   | _=>exact h1.elim
  ·exact h.elim
 ·refine (ps_aug g.nd hi hx he ip_sub hf).imp fun D σ H ⟨ρ,η,S,s,r,h⟩=> ?_
  simp only [aP] at h
  split at h
  ·rename_i x ex
   obtain ⟨v,e1,hv⟩:=r.at_ i x ex
   refine ⟨v,e1,ρ,η,S,s,r,(PQ.out s r h).mono fun ρ1 H1 y S1 st s1 h1 w hw=> ?_⟩
   cases x with
   | int a=>
    cases y with
    | int b=>
     simp only [VR] at hv hw
     subst hv hw
     exact ⟨a,b,rfl,rfl,h1 ρ1 H1 _ (Step.refl _ _) s1 ((r.step st).set i (by simp only [VR]))⟩
    | _=>exact h1.elim
   | _=>exact h1.elim
  ·exact h.elim
end
end Oz
namespace Oz
open PySem L2 PyProof.Rows
section
variable {G:bB} {ρ τ:List Addr} {H H':Hp} {S T:Hs}
mutual
theorem VR.has:∀ (x:Vl) (v:V),VR G ρ H x v→x.lim ρ.length=true
 | .non,_,_ | .bl _,_,_ | .int _,_,_ | .str _,_,_=>by simp [Vl.lim]
 | .tup xs,v,h=>by simp only [VR] at h;obtain ⟨a,vs,_,_,h2⟩:=h;simp only [Vl.lim];exact au.has xs vs h2
 | .lst xs,v,h=>by simp only [VR] at h;obtain ⟨a,vs,_,_,h2⟩:=h;simp only [Vl.lim];exact au.has xs vs h2
 | .dct ks xs,v,h=>by simp only [VR] at h;obtain ⟨a,vs,_,_,_,_,h2⟩:=h;simp only [Vl.lim];exact au.has xs _ h2
 | .obj c ns xs,v,h=>by simp only [VR] at h;obtain ⟨a,dx,vs,_,_,_,_,h2⟩:=h;simp only [Vl.lim];exact au.has xs _ h2
 | .err c ns xs,v,h=>by
  simp only [VR] at h
  obtain ⟨a,d,_,_,⟨_,rfl⟩ | ⟨dd,fs,_,_,_,_,h2⟩⟩:=h
  ·simp [Vl.lim,aV]
  ·simp only [Vl.lim];exact au.has xs _ h2
 | .ref r,v,h=>by simp only [VR] at h;obtain ⟨a,_,h2⟩:=h;simp only [Vl.lim,decide_eq_true_eq];exact aJ h2
theorem au.has:∀ (xs:List Vl) (vs:List V),au G ρ H xs vs→aV ρ.length xs=true
 | [],_,_=>by simp [aV]
 | x::xs,vs,h=>by
  simp only [au] at h
  obtain ⟨v,r,_,h1,h2⟩:=h
  simp only [aV,Bool.and_eq_true]
  exact ⟨VR.has x v h1,au.has xs r h2⟩
end
mutual
theorem VR.less:∀ (x:Vl) (v:V),VR G (ρ++τ) H x v→x.lim ρ.length=true→VR G ρ H x v
 | .non,_,h,_ | .bl _,_,h,_ | .int _,_,h,_ | .str _,_,h,_=>by simpa only [VR] using h
 | .tup xs,v,h,l=>by
  simp only [VR] at h ⊢
  simp only [Vl.lim] at l
  obtain ⟨a,vs,e,h1,h2⟩:=h
  exact ⟨a,vs,e,h1.imp (fun q=>⟨q.1,fun z=>q.2 (List.mem_append_left _ z)⟩) id,au.less xs vs h2 l⟩
 | .lst xs,v,h,l=>by
  simp only [VR] at h ⊢
  simp only [Vl.lim] at l
  obtain ⟨a,vs,e,h1,h2⟩:=h
  exact ⟨a,vs,e,⟨h1.1,fun z=>h1.2 (List.mem_append_left _ z)⟩,au.less xs vs h2 l⟩
 | .dct ks xs,v,h,l=>by
  simp only [VR] at h ⊢
  simp only [Vl.lim] at l
  obtain ⟨a,vs,e,h1,n,h2,h3⟩:=h
  exact ⟨a,vs,e,h1,fun z=>n (List.mem_append_left _ z),h2,au.less xs _ h3 l⟩
 | .obj c ns xs,v,h,l=>by
  simp only [VR] at h ⊢
  simp only [Vl.lim] at l
  obtain ⟨a,dx,vs,e,h1,n,h2,h3⟩:=h
  exact ⟨a,dx,vs,e,h1,fun z=>n (List.mem_append_left _ z),h2,au.less xs _ h3 l⟩
 | .err c ns xs,v,h,l=>by
  simp only [VR] at h ⊢
  simp only [Vl.lim] at l
  obtain ⟨a,d,e,hg,q⟩:=h
  exact ⟨a,d,e,hg,q.imp id fun ⟨dd,fs,e1,h1,n,h2,h3⟩=>⟨dd,fs,e1,h1,fun z=>n (List.mem_append_left _ z),h2,au.less xs _ h3 l⟩⟩
 | .ref r,v,h,l=>by
  simp only [VR] at h ⊢
  simp only [Vl.lim,decide_eq_true_eq] at l
  obtain ⟨a,e,h1⟩:=h
  exact ⟨a,e,by rw [← h1,List.getElem?_append_left l]⟩
theorem au.less:∀ (xs:List Vl) (vs:List V),au G (ρ++τ) H xs vs→aV ρ.length xs=true→au G ρ H xs vs
 | [],_,h,_=>by simpa only [au] using h
 | x::xs,vs,h,l=>by
  simp only [au] at h ⊢
  simp only [aV,Bool.and_eq_true] at l
  obtain ⟨v,r,e,h1,h2⟩:=h
  exact ⟨v,r,e,VR.less x v h1 l.1,au.less xs r h2 l.2⟩
end
theorem OR.has {a:Addr} {o:Ob} (h:OR G ρ H a o):o.lim ρ.length=true:=by
 cases o with
 | lst xs=>obtain ⟨vs,_,h2⟩:=h;exact au.has _ _ h2
 | dct ks xs=>obtain ⟨vs,_,_,h2⟩:=h;exact au.has _ _ h2
 | ins c ns xs=>obtain ⟨dx,vs,_,_,h2⟩:=h;exact au.has _ _ h2
 | Ac ks xs=>obtain ⟨vs,od,_,_,h2⟩:=h;exact au.has _ _ h2
theorem OR.less {a:Addr} {o:Ob} (h:OR G (ρ++τ) H a o) (l:o.lim ρ.length=true):OR G ρ H a o:=by
 cases o with
 | lst xs=>obtain ⟨vs,h1,h2⟩:=h;exact ⟨vs,h1,au.less _ _ h2 l⟩
 | dct ks xs=>obtain ⟨vs,h1,h2,h3⟩:=h;exact ⟨vs,h1,h2,au.less _ _ h3 l⟩
 | ins c ns xs=>obtain ⟨dx,vs,h1,h2,h3⟩:=h;exact ⟨dx,vs,h1,h2,au.less _ _ h3 l⟩
 | Ac ks xs=>obtain ⟨vs,od,h1,h2,h3⟩:=h;exact ⟨vs,od,h1,h2,au.less _ _ h3 l⟩
theorem bf.cut (s:bf G (ρ++τ) H (S++T)) (hl:ρ.length=S.length) (hS:∀ (r:Nat) (o:Ob),S[r]? =some o→o.lim S.length=true):bf G ρ H S where
 len:=hl
 nd:=(List.nodup_append.mp s.nd).1
 at_:=fun r o a h1 h2=>by
  refine OR.less (s.at_ r o a ?_ ?_) (by rw [hl];exact hS r o h1)
  ·rw [List.getElem?_append_left (aJ h1)];exact h1
  ·rw [List.getElem?_append_left (aJ h2)];exact h2
theorem bf.new {p:Addr} {u:HO} {o:Ob} (s:bf G ρ H S) (hp:H p=none) (ho:OR G (ρ++[p]) (upd H p u) p o):bf G (ρ++[p]) (upd H p u) (S++[o]):=by
 have sm:Same H (upd H p u):=fK hp
 have n:p∉ρ:=s.free hp
 have bU:Step ρ H (ρ++[p]) (upd H p u):=(bu sm).one hp
 refine ⟨by simp [s.len],?_,fun r o' a h1 h2=> ?_⟩
 ·rw [List.nodup_append]
  exact ⟨s.nd,by simp,fun x hx y hy=>by
   have:y=p:=by simpa using hy
   subst this
   exact fun e=>n (e ▸ hx)⟩
 ·by_cases hr:r<S.length
  ·rw [List.getElem?_append_left hr] at h1
   rw [List.getElem?_append_left (by rw [s.len];exact hr)] at h2
   exact (s.at_ r o' a h1 h2).same bU sm
  ·have Ry:r=S.length:=by
    have:=aJ h1
    simp at this
    omega
   subst Ry
   have e1:o'=o:=by simpa using h1.symm
   have e2:a=p:=by rw [← s.len] at h2;simpa using h2.symm
   subst e1 e2
   exact ho
theorem bf.Yv (s:bf G ρ H S) (r:Nat) (o:Ob) (h:S[r]? =some o):o.lim S.length=true:=by
 have hr:r<ρ.length:=by rw [s.len];exact aJ h
 rw [← s.len]
 exact (s.at_ r o ρ[r] h (List.getElem?_eq_getElem hr)).has
end
section
variable {G:bB} {M:aF} {W:WX} {X:Cx} {k:Nat}
abbrev WF:WX:=fun _ _ _ _=>False
theorem Good.blk [bT G X] (g:Good G k X) (s:Shared) (H:Hp) (scope:Scope) (ce:Env) (fp:List Addr):Good G k (X.blk s H scope ce fp):=⟨g.K,g.nd,g.room,g.N7,fun e h=>by rw [bT.er X] at h;cases h⟩
theorem yO {σ:L2.St} {i:Nat}:∀ {vs:List Nat},(wipe σ vs)[i]? =if i∈vs then σ[i]?.map (fun _=>none) else σ[i]?
 | []=>by simp [wipe]
 | v::vs=>by
  unfold wipe
  rw [List.getElem?_set,wipe_length]
  by_cases e:v=i
  ·subst e
   rw [if_pos rfl,if_pos List.mem_cons_self]
   by_cases l:v<σ.length
   ·rw [if_pos l,List.getElem?_eq_getElem l];rfl
   ·rw [if_neg l,List.getElem?_eq_none (by omega)];rfl
  ·rw [if_neg e,yO]
   by_cases m:i∈vs
   ·rw [if_pos m,if_pos (List.mem_cons_of_mem _ m)]
   ·rw [if_neg m,if_neg (by simp [m,Ne.symm e])]
theorem yG {σ σ':L2.St} {is vs:List Nat} (h:Off is (wipe σ vs) σ') (hs:∀ i∈is,i∈vs):wipe σ' vs=wipe σ vs:=by
 apply List.ext_getElem?
 intro i
 rw [yO,yO]
 by_cases m:i∈vs
 ·rw [if_pos m,if_pos m]
  have hl:σ'.length=σ.length:=h.1.trans (wipe_length σ vs)
  by_cases l:i<σ.length
  ·rw [List.getElem?_eq_getElem l,List.getElem?_eq_getElem (by omega)];rfl
  ·rw [List.getElem?_eq_none (by omega),List.getElem?_eq_none (by omega)]
 ·rw [if_neg m,if_neg m,h.2 i fun z=>m (hs i z),yO,if_neg m]
theorem ER.wipe {ρ:List Addr} {H:Hp} {η:Sg} {σ:L2.St} (h:ER G ρ H η σ):∀ (vs:List Nat),ER G ρ H (bR η vs) (wipe σ vs)
 | []=>h
 | v::vs=>(h.wipe vs).ajR v
def xW (G:bB) (M:aF) (W:WX) (c:Es):TT:=fun σ H Q=>∃ ρ η S,bf G ρ H S∧ER G ρ H η σ∧PR G W σ ρ H (dB M c η S) (fun _ H' b _=>Q b H')
theorem _root_.L2.PTs.imp {X:Cx} {e:List Expr} {t t':TT} (h:PTs X e t) (k:∀ σ H Q,t' σ H Q→t σ H Q):PTs X e t':=⟨fun pins s σ H Q I q=>h.run pins s σ H Q I (k σ H Q q)⟩
theorem gD:PTs X [] (xW G M W .nil):=pts_nil.imp fun σ H Q ⟨ρ,η,S,s,r,h⟩=>by
 simp only [dB] at h
 exact h.here s
theorem ajU {e:Expr} {c:E} (h:PT X e (tQ G M W c)):PTs X [e] (xW G M W (.cons c .nil)):=(pts_one h).imp fun σ H Q ⟨ρ,η,S,s,r,h⟩=>⟨ρ,η,S,s,r,by
 simp only [dB] at h
 refine (PR.bind h).mono fun ρ1 H1 x S1 st s1 h1=> ?_
 cases x with
 | bl b=>cases b<;>exact ⟨_,rfl,h1.here s1⟩
 | _=>exact h1.elim⟩
theorem nD {n:Nat} {y:Vl}:∀ {xs:List Vl},aV n xs=true→y.lim n=true→aV n (xs++[y])=true
 | [],_,h=>by simp [aV,h]
 | x::xs,h,k=>by
  simp only [aV,Bool.and_eq_true] at h
  show (Vl.lim n x&&aV n (xs++[y]))=true
  rw [h.1,nD h.2 k];rfl
theorem o9 {α:Type} {xs ys:List α} (h:xs<+:ys) (l:ys.length=xs.length):ys=xs:=(List.IsPrefix.eq_of_length h l.symm).symm
theorem afz {own:List Nat} {ce:E} {t:Tg} {qP:Src} {ci:Es} (ht:∀ i∈t.slots,i∈own) (σ:L2.St) (H:Hp) (Q:VK) (h:tF G M W (.comp own ce t qP ci) σ H Q):tLc (tS G M W qP) (tG G t) (xW G M WF ci) (tE G M WF ce) own σ H Q:=by
 obtain ⟨ρ,η,S,s,r,h⟩:=h
 refine ⟨ρ,η,S,s,r,?_⟩
 simp only [d9] at h
 refine (PR.bind h).mono fun ρ1 H1 p S1 st s1 h1 J jw D hD=> ?_
 obtain ⟨lk,xs⟩:=p
 simp only at h1 jw
 have hD0:H D=none:=none_of s s1 st hD
 have hDn:D∉ρ1:=s1.free hD
 have Bp:=s1.len
 -- the start
 have sm:Same H1 (upd H1 D (.lst [])):=fK hD
 have stD:Step ρ1 H1 (ρ1++[D]) (upd H1 D (.lst [])):=(bu sm).one hD
 have U5:bf G (ρ1++[D]) (upd H1 D (.lst [])) (S1++[.lst []]):=s1.new hD ⟨[],upd_same,au.nil⟩
 have rD:(ρ1++[D])[S1.length]? =some D:=by rw [← Bp];simp
 generalize Ep:(fun (x:Vl) (S2:Hs)=>match aZ t x (bR η own) with
   | none=>(Res.bad:Res (Option Vl))
   | some η1=>(dB M ci η1 S2).bind fun b S3=>if b=true then (ev M ce η1 S3).bind fun y S4=>.ok (some y) S4 else .ok none S3)=step at h1
 refine ⟨fun i m H'=>m=xs.length - i∧i≤xs.length∧∃ aQ,Step ρ1 H1 (ρ1++[D]) H'∧bf G (ρ1++[D]) H' (S1++[.lst aQ])∧PR G W σ ρ1 H1 ((gJ step lk (xs.drop i) aQ S1).bind fun ys S2=>.ok (.lst ys) S2) (Ci G H Q)∧aV S1.length aQ=true,⟨xs.length,by simp,Nat.zero_le _,[],stD,U5,by simpa using h1,by simp [aV]⟩,?_⟩
 rintro i m H' ⟨rfl,hi,aQ,gG,s',h',la⟩
 by_cases hl:i<xs.length
 ·refine .inr ?_
  rw [List.drop_eq_getElem_cons hl] at h'
  simp only [gJ] at h'
  split at h'
  ·rename_i l'
   have l2:cP lk (S1++[.lst aQ]):=fun p hp=>by
    have e:=l' p hp
    rw [List.getElem?_append_left (aJ e)];exact e
   obtain ⟨hgo,hy⟩:=jw.go _ H' _ i xs[i] (Step.x gG) s' l2 (by simp [hl])
   refine ⟨hgo,fun H3=>∃ aQ,Step ρ1 H1 (ρ1++[D]) H3∧bf G (ρ1++[D]) H3 (S1++[.lst aQ])∧PR G W σ ρ1 H1 ((gJ step lk (xs.drop (i+1)) aQ S1).bind fun ys S2=>.ok (.lst ys) S2) (Ci G H Q)∧aV S1.length aQ=true,fun H3 a=>⟨xs.length - (i+1),by omega,rfl,by omega,a⟩,fun v H3 y=> ?_⟩
   obtain ⟨sm3,hv⟩:=hy v H3 y
   have lN:Step (ρ1++[D]) H' (ρ1++[D]) H3:=bu sm3
   have s3:=s'.same sm3
   have est:step xs[i] (S1++[.lst aQ])=match aZ t xs[i] (bR η own) with
     | none=>(Res.bad:Res (Option Vl))
     | some η1=>(dB M ci η1 (S1++[.lst aQ])).bind fun b S3=>if b=true then (ev M ce η1 S3).bind fun y S4=>.ok (some y) S4 else .ok none S3:=by rw [← Ep]
   cases eb:aZ t xs[i] (bR η own) with
   | none=>rw [est,eb] at h';exact h'.elim
   | some η2=>
    rw [est,eb] at h'
    simp only at h'
    have er3:ER G (ρ1++[D]) H3 (bR η own) (wipe σ own):=(((r.step st).step gG).step lN).wipe own
    refine ⟨ρ1++[D],S1++[.lst aQ],bR η own,xs[i],η2,s3,er3,hv,eb,fun σ4 of4 r4=>⟨yG of4 ht,ρ1++[D],η2,S1++[.lst aQ],s3,r4,?_⟩⟩
    cases ea:dB M ci η2 (S1++[.lst aQ]) with
    | bad=>rw [ea] at h';exact h'.elim
    | exc x S3=>rw [ea] at h';exact h'.elim
    | ok b S3=>
     rw [ea] at h'
     simp only [Res.bind] at h'
     refine fun ρ5 H5 st5 s5=> ?_
     cases b with
     | false=>
      simp only [Bool.false_eq_true,if_false] at h' ⊢
      by_cases c5:S3=S1++[.lst aQ]∧aQ.length<sizeLine
      ·rw [if_pos c5] at h'
       obtain ⟨rfl,_⟩:=c5
       have e5:ρ5=ρ1++[D]:=o9 st5.pre (by rw [s5.len,← s3.len])
       subst e5
       exact ⟨aQ,(gG.trans lN).trans st5,s5,h',la⟩
      ·rw [if_neg c5] at h';exact h'.elim
     | true=>
      simp only [if_true] at h' ⊢
      refine ⟨ρ5,η2,S3,s5,r4.step st5,?_⟩
      cases ev6:ev M ce η2 S3 with
      | bad=>rw [ev6] at h';exact h'.elim
      | exc x S4=>rw [ev6] at h';exact h'.elim
      | ok y S4=>
       rw [ev6] at h'
       simp only [Res.bind] at h'
       refine fun ρ7 H7 st7 s7 w hw=> ?_
       by_cases c7:S4=S1++[.lst aQ]∧aQ.length<sizeLine
       ·rw [if_pos c7] at h'
        obtain ⟨rfl,hz⟩:=c7
        have e7:ρ7=ρ1++[D]:=o9 (st5.trans st7).pre (by rw [s7.len,← s3.len])
        subst e7
        by_cases ly:y.lim S1.length=true
        ·rw [if_pos ly] at h'
         obtain ⟨vs,g1,g2⟩:=s7.at_ S1.length (.lst aQ) D (by simp) rD
         have nf:∀ od u,H7 D≠some (.frz od u):=fun od u z=>by rw [g1] at z;cases z
         have stE:Step (ρ1++[D]) H7 (ρ1++[D]) (upd H7 D (.lst (vs++[w]))):=⟨List.prefix_refl _,fun b o hb hn=>by
          rw [upd_ne fun e=>hn (by subst e;simp)];exact hb,fun b hb=>.inl hb,o8 nf⟩
         obtain ⟨st8,s8⟩:=bf.put (ho:=.lst (vs++[w])) (o2:=.lst (aQ++[y])) s7 rD nf ⟨vs++[w],upd_same,au.step stE _ _ (g2.append (au.cons hw au.nil))⟩
         refine ⟨vs,g1,by rw [← g2.length];exact hz,aQ++[y],(((gG.trans lN).trans st5).trans st7).trans st8,by simpa using s8,h',?_⟩
         exact nD la ly
        ·rw [if_neg ly] at h';exact h'.elim
       ·rw [if_neg c7] at h';exact h'.elim
  ·exact h'.elim
 ·have e:i=xs.length:=by omega
  subst e
  rw [List.drop_length] at h'
  simp only [gJ] at h'
  split at h'
  ·rename_i l'
   have l2:cP lk (S1++[.lst aQ]):=fun p hp=>by
    have e:=l' p hp
    rw [List.getElem?_append_left (aJ e)];exact e
   refine .inl ⟨jw.stop _ H' _ (Step.x gG) s' l2,?_⟩
   have sc:bf G ρ1 H' S1:=s'.cut Bp s1.Yv
   have Uo:Step ρ1 H1 ρ1 H':=⟨List.prefix_refl _,gG.keep,fun a ha=>.inl ha,gG.fz⟩
   have fin:Ci G H Q ρ1 H' (.lst aQ) S1:=h' ρ1 H' Uo sc
   exact fin D hD0 hDn (OR.less (s'.at_ S1.length (.lst aQ) D (by simp) rD) (by rw [Bp];exact la)) s'
  ·exact h'.elim
section
variable {iJ tg iter:Expr} {jZ:List Expr} {scope:Scope} {own:List (Str × Nat)} {pos:Pos} {ce:E} {t:Tg} {qP:Src} {ci:Es}
theorem jo [bT G X] (g:Good G k X) (yg:∀ i∈t.slots,i∈own.map (·.2)) (hi:PI X tg iter (tS G M W qP)) (ok:BlkOk X.N X.env.scope scope own)
  (hg:∀ (s:Shared) (H:Hp) (C:Addr) (cl:List (Str × Addr)) (fp:List Addr),PG (X.blk s H scope (compEnvC scope cl C X.env) fp) tg (tG G t)) (ht:∀ (s:Shared) (H:Hp) (C:Addr) (cl:List (Str × Addr)) (fp:List Addr),PTs (X.blk s H scope (compEnvC scope cl C X.env) fp) jZ (xW G M WF ci))
  (he:∀ (s:Shared) (H:Hp) (C:Addr) (cl:List (Str × Addr)) (fp:List Addr),PE (X.blk s H scope (compEnvC scope cl C X.env) fp) iJ (tE G M WF ce)) (hs:∀ x,foldedSetIterable iter X.env x=pure x:=by intro _;rfl) :
  PE X (.ListComp iJ [⟨tg,iter,jZ,0⟩] scope pos) (tF G M W (.comp (own.map (·.2)) ce t qP ci)):=(pe_lc g.calm g.nd hi ok hg ht he hs).imp fun σ H Q h=>afz yg σ H Q h
theorem Ai [bT G X] (g:Good G k X) {i:Nat} {y:Str} {py acb:Pos} (hy:X.N[i]? =some y) (hyl:X.env.scope.names.lookup y=some .local)
  (hsw:swapsWith (.ListComp iJ [⟨tg,iter,jZ,0⟩] scope pos) (some (.Name y py)) acb.line X.env=pure true) (yg:∀ i∈t.slots,i∈own.map (·.2)) (hi:PI X tg iter (tS G M W qP)) (ok:BlkOk X.N X.env.scope scope own)
  (hg:∀ (s:Shared) (H:Hp) (C:Addr) (cl:List (Str × Addr)) (fp:List Addr),PG (X.blk s H scope (compEnvC scope cl C X.env) fp) tg (tG G t)) (ht:∀ (s:Shared) (H:Hp) (C:Addr) (cl:List (Str × Addr)) (fp:List Addr),PTs (X.blk s H scope (compEnvC scope cl C X.env) fp) jZ (xW G M WF ci))
  (he:∀ (s:Shared) (H:Hp) (C:Addr) (cl:List (Str × Addr)) (fp:List Addr),PE (X.blk s H scope (compEnvC scope cl C X.env) fp) iJ (tE G M WF ce)) (hs:∀ x,foldedSetIterable iter X.env x=pure x:=by intro _;rfl) (fr:Bool) :
  PS X (.Assign [.Name y py] (.ListComp iJ [⟨tg,iter,jZ,0⟩] scope pos) acb) (tC G M W (.asg (.nm i) (if fr then .inl (.comp (own.map (·.2)) ce t qP ci) else .CG (.comp (own.map (·.2)) ce t qP ci)))):=(ps_setLc g.calm g.nd hy hyl hsw hi ok hg ht he hs).imp fun D σ H ⟨ρ,η,S,s,r,h⟩=>by
 refine afz yg σ H _ ⟨ρ,η,S,s,r,?_⟩
 cases fr with
 | true=>
  simp only [if_true,aP,ev,aZ] at h
  cases eo:d9 M (.comp (own.map (·.2)) ce t qP ci) η S with
  | ok o S1=>
   rw [eo] at h
   exact fun ρ1 H1 st s1 p hp hn ho hs=>h ρ1 H1 _ st s1 ((r.step st).set i (ho.inl hn))
  | exc x S1=>rw [eo] at h;exact fun ρ1 H1 st s1=>h ρ1 H1 σ st s1 (r.step st)
  | bad=>rw [eo] at h;exact h
 | false=>
  simp only [Bool.false_eq_true,if_false,aP,ev,aZ] at h
  cases eo:d9 M (.comp (own.map (·.2)) ce t qP ci) η S with
  | ok o S1=>
   rw [eo] at h
   exact fun ρ1 H1 st s1 p hp hn ho hs=>h (ρ1++[p]) H1 _ (st.one hp) hs ((r.step (st.one hp)).set i (by simp only [VR];exact ⟨p,rfl,by rw [← s1.len];simp⟩))
  | exc x S1=>rw [eo] at h;exact fun ρ1 H1 st s1=>h ρ1 H1 σ st s1 (r.step st)
  | bad=>rw [eo] at h;exact h
end
end
end Oz
namespace Oz
open PySem L2 PyProof.Rows PySem.Froz
def SetT (P:Program) (w:World) (h:Heap) (a:Addr) (l:List Str):Prop:=
 ∃ D:SD,h.get? a=some (sObj "set" D)∧TxOk P w D l∧(D.1.toList.map fun e=>strOf e.2).Perm l∧(∀ e∈D.1.toList,∃ x t,e.2=.str x t)∧Ris D.2.2.place.toList∧(w.params.followText "set-order"=true∨D.2.2.led=true)
theorem SetT.at {P:Program} {w:World} {h h':Heap} {a:Addr} {l:List Str} (R:SetT P w h a l) (k:∀ o,h.get? a=some o→h'.get? a=some o):SetT P w h' a l:=by
 obtain ⟨D,ho,r⟩:=R
 exact ⟨D,k _ ho,r⟩
def alB (k:Str) (l:List Str):List Str:=if k∈l then l else k::l
abbrev alw (w:World):Obj:={ cls:=.type "set",dict:=none,data:=.set #[] 0 (.fresh 0 0 (!w.params.followText "set-order")) }
section
variable {P:Program} {w:World} {A:Around} {E:Value→Shared→Prop} {s:Shared} {a:Addr} {l:List Str}
theorem SetT.typeIs (R:SetT P w s.heap a l):s.TypeIs (.ref a) "set":=by
 obtain ⟨D,ho,_⟩:=R
 exact ⟨_,ho,rfl⟩
def Oa:List Str→List Str→List Str
 | [],l=>l
 | z::zs,l=>Oa zs (alB z l)
set_option maxHeartbeats 3200000 in
end
end Oz
namespace Oz
open PySem L2 PyProof.Rows PySem.Froz
def SetTO (P:Program) (w:World) (a:Addr) (l:List Str):HO:=.ext fun h=>SetT P w h a l
section
variable {X:Cx}
def amQ (X:Cx):List V→Hp→VK→Prop:=fun xs H Q=>∃ (b:Addr) (zs:List Str),xs=[.ref b]∧SqL X.K H b (zs.map V.str)∧zs.length+1<scanBound∧∀ p,H p=none→Q (.ref p) (upd H p (SetTO X.prog X.w p (Oa zs [])))
def rSortT (X:Cx):List V→Hp→VK→Prop:=fun xs H Q=>∃ (a:Addr) (l:List Str),xs=[.ref a]∧H a=some (SetTO X.prog X.w a l)∧l.length<64∧∀ ys p,ys.Perm l→sortedS ys=true→H p=none→Q (.ref p) (upd H p (.lst (ys.map V.str)))
end
section
variable {X:Cx} {iJ:Expr} {gens:List Comprehension} {scope:Scope} {pos ip:Pos} {j:Nat} {tg:Expr} {jZ:List Expr} {it:Addr} {aQ:Value} {J:It} {fp:List Addr} {tn:Nat→Heap→Prop} {pins:List (Addr × Obj)} {s:Shared} {σ:L2.St} {H:Hp} {g:TG} {tt:TT}
end
section
variable {G:bB} {ρ ρ':List Addr} {H H':Hp} {S:Hs} {D:Addr} {φ:Heap→Prop} {o:HO}
end
section
variable {G:bB} {M:aF} {W:WX} {X:Cx} {k:Nat} {iJ tg iter tg1 ajX:Expr} {jZ Sy:List Expr} {scope:Scope} {own:List (Str × Nat)} {Rm:List Nat} {pos:Pos} {ce:E} {t t1:Tg} {qP T5:Src} {ci ci1:Es}
noncomputable def ae1 (M:aF) (ce:E) (Rm:List Nat) (t1:Tg) (ci1:Es) (η1:Sg) (y:Vl) (S5:Hs):Res (List Str):=match aZ t1 y (bR η1 Rm) with
 | none=>.bad
 | some η2=>(dB M ci1 η2 S5).bind fun b1 S6=>if b1=true then (ev M ce η2 S6).bind fun y S7=>match y with
   | .str z=>.ok [z] S7
   | _=>.bad
  else .ok [] S6
noncomputable def aeA (M:aF) (own:List Nat) (ce:E) (t:Tg) (ci:Es) (Rm:List Nat) (t1:Tg) (T5:Src) (ci1:Es) (η:Sg) (x:Vl) (S2:Hs):Res (List Str):=match aZ t x (bR η own) with
 | none=>.bad
 | some η1=>(dB M ci η1 S2).bind fun b S3=>if b=true then (pC M T5 η1 S3).bind fun p1 S4=>Bw (ae1 M ce Rm t1 ci1 η1) p1.1 p1.2 S4
  else .ok [] S3
def tSC (G:bB) (M:aF) (W:WX) (P:Program) (w:World) (own:List Nat) (ce:E) (t:Tg) (qP:Src) (ci:Es) (Rm:List Nat) (t1:Tg) (T5:Src) (ci1:Es):TE:=fun σ H Q=>∃ ρ η S,bf G ρ H S∧ER G ρ H η σ∧
 PR G W σ ρ H ((pC M qP η S).bind fun p S1=>(Bw (aeA M own ce t ci Rm t1 T5 ci1 η) p.1 p.2 S1).bind fun zs S2=>.ok zs S2) fun ρ' H' zs _=>zs.length<64∧∀ p,H p=none→p∉ρ'→H' p=some (SetTO P w p (Oa zs []))→Q (.ref p) H'
end
end Oz
namespace Oz
open PySem L2 PyProof.Rows PySem.Froz
section
variable {G:bB} {M:aF} {W:WX} {X:Cx} {k:Nat} {iJ tg iter tg1 ajX:Expr} {jZ Sy:List Expr} {scope:Scope} {own:List (Str × Nat)} {Rm:List Nat} {pos:Pos} {ce:E} {t t1:Tg} {qP T5:Src} {ci ci1:Es}
end
end Oz
namespace Oz
open PySem L2 PyProof.Rows PySem.Froz PySem.Spec
def De (a b:Str):Prop:=Le b a=false
theorem vG {a b:Str}:De a b↔¬ b.cps.toList<a.cps.toList:=by unfold De Le;rw [decide_eq_false_iff_not]
theorem yP {a b:Str} (h:De a b) (k:De b a):a=b:=by
 rw [vG] at h k
 have e:a.cps.toList=b.cps.toList:=List.le_antisymm h k
 obtain ⟨x⟩:=a
 obtain ⟨y⟩:=b
 congr 1
 exact Array.toList_inj.mp e
theorem K6 {a b c:Str} (h:De a b) (k:De b c):De a c:=by
 rw [vG] at *
 exact List.le_trans h k
theorem Ji (a b:Str):De a b∨De b a:=by
 rw [vG,vG]
 exact List.le_total _ _
theorem Eu (x:Str):∀ ys:List Str,(rN x ys).Perm (x::ys)
 | []=>.refl _
 | y::ys=>by
  unfold rN
  split
  ·exact ((Eu x ys).cons y).trans (.swap x y ys)
  ·exact .refl _
theorem z9:∀ xs:List Str,(dO xs).Perm xs
 | []=>.refl _
 | x::xs=>(Eu x _).trans ((z9 xs).cons x)
theorem ZS (x:Str):∀ ys:List Str,ys.Pairwise De→(rN x ys).Pairwise De
 | [],_=>by simp [rN]
 | y::ys,h=>by
  obtain ⟨h1,h2⟩:=List.pairwise_cons.mp h
  unfold rN
  split
  ·rename_i c
   refine List.pairwise_cons.mpr ⟨fun z hz=> ?_,ZS x ys h2⟩
   rcases List.mem_cons.mp ((Eu x ys).mem_iff.mp hz) with e | e
   ·subst e
    rcases Ji y z with q | q
    ·exact q
    ·unfold De at q;rw [c] at q;cases q
   ·exact h1 z e
  ·rename_i c
   have c':De x y:=by unfold De;simpa using c
   exact List.pairwise_cons.mpr ⟨fun z hz=>(List.mem_cons.mp hz).elim (fun e=>e ▸ c') fun e=>K6 c' (h1 z e),h⟩
theorem CV:∀ xs:List Str,(dO xs).Pairwise De
 | []=>List.Pairwise.nil
 | x::xs=>ZS x _ (CV xs)
theorem Kz:∀ (p:Str) (l:List Str),risingS p l=true→(p::l).Pairwise De
 | p,[],_=>by simp
 | p,x::r,h=>by
  have h':(!ltCps x.cps.toList p.cps.toList&&risingS x r)=true:=h
  rw [Bool.and_eq_true] at h'
  have px:De p x:=by unfold De Le;rw [← ltCps_eq];simpa using h'.1
  have ih:=Kz x r h'.2
  exact List.pairwise_cons.mpr ⟨fun z hz=>(List.mem_cons.mp hz).elim (fun e=>e ▸ px) fun e=>K6 px ((List.pairwise_cons.mp ih).1 z e),ih⟩
theorem Xz:∀ (l:List Str),sortedS l=true→l.Pairwise De
 | [],_=>List.Pairwise.nil
 | x::r,h=>Kz x r h
theorem X7 {ys zs:List Str} (h:ys.Perm zs) (s:sortedS ys=true):ys=dO zs:=
 List.Perm.eq_of_pairwise (le:=De) (fun _ _ _ _=>yP) (Xz ys s) (CV zs) (h.trans (z9 zs).symm)
section
variable {G:bB} {M:aF} {W:WX} {X:Cx} {k:Nat} {a:Expr} {ca:E} {pos p p2 jA:Pos}
theorem insI_perm (x:Int):∀ ys:List Int,(insI x ys).Perm (x::ys)
 | []=>.refl _
 | y::ys=>by
  unfold insI
  split
  ·exact ((insI_perm x ys).cons y).trans (.swap x y ys)
  ·exact .refl _
theorem sortI_perm:∀ xs:List Int,(sortI xs).Perm xs
 | []=>.refl _
 | x::xs=>(insI_perm x _).trans ((sortI_perm xs).cons x)
theorem Ww (x:Int):∀ ys:List Int,ys.Pairwise (·≤·)→(insI x ys).Pairwise (·≤·)
 | [],_=>by simp [insI]
 | y::ys,h=>by
  obtain ⟨h1,h2⟩:=List.pairwise_cons.mp h
  unfold insI
  split
  ·rename_i c
   refine List.pairwise_cons.mpr ⟨fun z hz=> ?_,Ww x ys h2⟩
   rcases List.mem_cons.mp ((insI_perm x ys).mem_iff.mp hz) with e | e
   ·omega
   ·exact h1 z e
  ·rename_i c
   exact List.pairwise_cons.mpr ⟨fun z hz=>(List.mem_cons.mp hz).elim (fun e=>by omega) fun e=>by have:=h1 z e;omega,h⟩
theorem QS:∀ xs:List Int,(sortI xs).Pairwise (·≤·)
 | []=>List.Pairwise.nil
 | x::xs=>Ww x _ (QS xs)
theorem Um {ys zs:List Int} (h:ys.Perm zs) (s:ys.Pairwise (·≤·)):ys=sortI zs:=
 List.Perm.eq_of_pairwise (le:=(·≤·)) (fun _ _ _ _ h k=>Int.le_antisymm h k) s (QS zs) (h.trans (sortI_perm zs).symm)
theorem aju {f:Value} {R1 R2:List V→Hp→VK→Prop} (h1:CallR X f R1) (h2:CallR X f R2):CallR X f (fun xs H Q=>R1 xs H Q∨R2 xs H Q):=by
 intro pins s σ H xs us Q I r q
 rcases q with q | q
 ·exact h1 pins s σ H xs us Q I r q
 ·exact h2 pins s σ H xs us Q I r q
end
end Oz
namespace Oz
open PySem L2 PyProof.Rows PySem.Froz PySem.Spec
theorem Ov:∀ {us:List Value} {ns:List Int},us.length=ns.length→(∀ (i:Nat) (u:Value),us[i]? =some u→∃ (y:Int) (k:Tok),ns[i]? =some y∧u=.int y k)→IntsAre us ns
 | [],[],_,_=>IntsAre.nil
 | [],_::_,e,_=>absurd e (by simp)
 | _::_,[],e,_=>absurd e (by simp)
 | u::us,m::ns,e,h=>by
  have h0:=h 0 u (by simp)
  obtain ⟨y,k,e1,e2⟩:=h0
  simp only [List.getElem?_cons_zero,Option.some.injEq] at e1
  rw [e2,← e1]
  exact IntsAre.cons _ _ (Ov (Nat.succ.inj e) fun i w ew=>by
   have:=h (i+1) w (by simpa using ew)
   simpa only [List.getElem?_cons_succ] using this)
section
variable {X:Cx}
theorem YQ (hc:X.calm=true):CallR X (.builtin "sorted") (fun xs H Q=>∃ (r:Addr) (kvs:List (Key × V)) (ns:List Int),xs=[V.ref r]∧Rd H r (.dK kvs)∧kvs.map (·.1)=ns.map Sum.inl∧ns.length≤100000∧
  ∀ (ys:List Int) (p:Addr),ys.Perm ns→ys.Pairwise (·≤·)→H p=none→Q (V.ref p) (upd H p (.lst (ys.map V.int)))):=by
 intro pins s σ H xs us Q I r ⟨a,kvs,ns,e0,hd,hks,hz,q⟩
 subst e0
 obtain ⟨u,e1,rx⟩:=vals1 r
 subst e1;cases rx
 obtain ⟨z0,lo,vs,rel,dd⟩:=dk_rd I.hok hd
 have ⟨ep,hat⟩:=dd.dictAt
 have keys:vs.map (·.1)=ns.map Sum.inl:=by rw [← hks];exact rel.keys.symm
 have vl:vs.length=ns.length:=by have:=congrArg List.length keys;simpa only [List.length_map] using this
 have Tj:vs.length≤sizeLine:=Nat.le_trans (Nat.le_of_eq vl) (Nat.le_trans hz (by decide))
 apply Calls.call_function_entry kind_sorted plain_sorted entry_sorted (args_sorted1 _)
 show wpAny _ _ (Builtin.«sorted» _) _ _ _
 unfold Builtin.«sorted»
 refine wpAny_bind (m:=checkCount "sorted" 1 1 _) (wpAny_pure (wpAny_bind (PySem.W.kdu_collect (A:=X.A.in1) (PySem.W.kdl_dict (knd:=mixKind X.prog X.w) (kvs:=vs) (ep:=ep) lo) (I.ok.hd hc) hat Tj fun h1 tk aQ hk hacc=> ?_)))
 have al:aQ.toList.length=ns.length:=(Array.length_toList (xs:=aQ)).trans (hacc.1.trans vl)
 have hI:IntsAre aQ.toList ns:=Ov al fun i w ew=>by
  rw [Array.getElem?_toList] at ew
  obtain ⟨kk,x,g1,g2⟩:=hacc.2 i w ew
  have g3:(ns.map (Sum.inl:Int→Key))[i]? =some kk:=by rw [← keys,List.getElem?_map,g1];rfl
  rw [List.getElem?_map] at g3
  obtain ⟨y,g4,g5⟩:=Option.map_eq_some_iff.mp g3
  subst g5
  rcases keyIs_shape (show keyIs (Sum.inl y) w=true from g2) with ⟨i',t,ek,ev⟩ | ⟨z,t,ek,ev⟩<;>cases ek
  exact ⟨y,t,g4,ev⟩
 have J:Inv X pins σ H { s with heap:=h1,toks:=tk }:=I.kept hk
 have al2:aQ.toList.length≤sizeLine:=by rw [al];exact Nat.le_trans hz (by decide)
 refine wpAny_bind (wpAny_newList ?_ al2)
 have hL:=Heap.get?_push_size h1 (o:=seqObj "list" aQ.toList.toArray 0) rfl
 show wpAny _ _ _ _ _ { s with toks:=tk,heap:=h1.push (seqObj "list" aQ.toList.toArray 0) }
 refine wpAny_bind (wpAny_holding (wpAny_call_entry slot_list_sort ⟨_,hL,rfl⟩ entry_list_sort (SrtO.list_sort_ord (s:={ s with toks:=tk,heap:=h1.push (seqObj "list" aQ.toList.toArray 0) }) SrtO.swo_int hL al2 (fun h2=>SrtO.ints_sortable hI h2) fun out o1 o2=>⟨_,rfl,?_⟩) (args_list_sort _)))
 obtain ⟨p1,p2,p3⟩:=SrtO.ints_out hI o1 o2
 obtain ⟨e',he'⟩:=sortedHeap_at (vs:=aQ.toList) (out:=out.toArray) hL
 have hl2:((out.map SrtO.iv).map V.int).length≤sizeLine:=by
  rw [List.length_map,p2.length_eq]
  exact Nat.le_trans hz (by decide)
 have old:∀ b o,h1.get? b=some o→(sortedHeap (h1.push (seqObj "list" aQ.toList.toArray 0)) h1.objs.size aQ.toList out.toArray).get? b=some o:=fun b o eb=>by
  have lt:=Heap.lt_size eb
  rw [sortedHeap_old (Nat.ne_of_lt lt) (by rw [size_push'];exact Nat.lt_succ_of_lt lt)]
  exact Heap.get?_push_of_some _ eb
 exact wpAny_pure ⟨_,rfl,.ref h1.objs.size,upd H h1.objs.size (.lst ((out.map SrtO.iv).map V.int)),J.laid (t':=tk) old (Nat.le_refl _) (show ObjOk X.prog X.w _ _ _ (.lst ((out.map SrtO.iv).map V.int)) from ⟨hl2,out,e',vals_of_ints p1,he'⟩),rfl,q _ _ p2 p3 (J.hok.fresh (Nat.le_refl _))⟩
theorem Yg (hc:X.calm=true):CallR X (.builtin "sorted") (fun xs H Q=>∃ (r:Addr) (kvs:List (Key × V)) (ns:List Str),xs=[V.ref r]∧Rd H r (.dK kvs)∧kvs.map (·.1)=ns.map Sum.inr∧ns.length≤100000∧
  ∀ (ys:List Str) (p:Addr),ys.Perm ns→sortedS ys=true→H p=none→Q (V.ref p) (upd H p (.lst (ys.map V.str)))):=by
 intro pins s σ H xs us Q I r ⟨a,kvs,ns,e0,hd,hks,hz,q⟩
 subst e0
 obtain ⟨u,e1,rx⟩:=vals1 r
 subst e1;cases rx
 obtain ⟨z0,lo,vs,rel,dd⟩:=dk_rd I.hok hd
 have ⟨ep,hat⟩:=dd.dictAt
 have keys:vs.map (·.1)=ns.map Sum.inr:=by rw [← hks];exact rel.keys.symm
 have vl:vs.length=ns.length:=by have:=congrArg List.length keys;simpa only [List.length_map] using this
 have Tj:vs.length≤sizeLine:=Nat.le_trans (Nat.le_of_eq vl) (Nat.le_trans hz (by decide))
 apply Calls.call_function_entry kind_sorted plain_sorted entry_sorted (args_sorted1 _)
 show wpAny _ _ (Builtin.«sorted» _) _ _ _
 unfold Builtin.«sorted»
 refine wpAny_bind (m:=checkCount "sorted" 1 1 _) (wpAny_pure (wpAny_bind (PySem.W.kdu_collect (A:=X.A.in1) (PySem.W.kdl_dict (knd:=mixKind X.prog X.w) (kvs:=vs) (ep:=ep) lo) (I.ok.hd hc) hat Tj fun h1 tk aQ hk hacc=> ?_)))
 have al:aQ.toList.length=ns.length:=(Array.length_toList (xs:=aQ)).trans (hacc.1.trans vl)
 have hS:StrsAre aQ.toList ns:=strs_at al fun i w ew=>by
  rw [Array.getElem?_toList] at ew
  obtain ⟨kk,x,g1,g2⟩:=hacc.2 i w ew
  have g3:(ns.map (Sum.inr:Str→Key))[i]? =some kk:=by rw [← keys,List.getElem?_map,g1];rfl
  rw [List.getElem?_map] at g3
  obtain ⟨y,g4,g5⟩:=Option.map_eq_some_iff.mp g3
  subst g5
  rcases keyIs_shape (show keyIs (Sum.inr y) w=true from g2) with ⟨i',t,ek,ev⟩ | ⟨z,t,ek,ev⟩<;>cases ek
  exact ⟨y,t,g4,ev⟩
 have J:Inv X pins σ H { s with heap:=h1,toks:=tk }:=I.kept hk
 have al2:aQ.toList.length≤sizeLine:=by rw [al];exact Nat.le_trans hz (by decide)
 refine wpAny_bind (wpAny_newList ?_ al2)
 have hL:=Heap.get?_push_size h1 (o:=seqObj "list" aQ.toList.toArray 0) rfl
 show wpAny _ _ _ _ _ { s with toks:=tk,heap:=h1.push (seqObj "list" aQ.toList.toArray 0) }
 refine wpAny_bind (wpAny_holding (wpAny_call_entry slot_list_sort ⟨_,hL,rfl⟩ entry_list_sort (list_sort_treeKAny (s:={ s with toks:=tk,heap:=h1.push (seqObj "list" aQ.toList.toArray 0) }) strKind_oneLt hL (StrsAre.keysOf hS) (fun v₁ v₂ rest e=>keyKind_strs (by rw [← e];exact hS)) al2 fun gG o1 o2=>⟨_,rfl,?_⟩) (args_list_sort _)))
 obtain ⟨ys,p1,p2,p3⟩:=sorted_out_str hS o1 o2
 obtain ⟨e',he'⟩:=sortedHeap_at (vs:=aQ.toList) (out:=Array.map (fun x=>x.2) (arrOf gG)) hL
 have hl2:(ys.map V.str).length≤sizeLine:=by
  rw [List.length_map,p2.length_eq]
  exact Nat.le_trans hz (by decide)
 have old:∀ b o,h1.get? b=some o→(sortedHeap (h1.push (seqObj "list" aQ.toList.toArray 0)) h1.objs.size aQ.toList (Array.map (fun x=>x.2) (arrOf gG))).get? b=some o:=fun b o eb=>by
  have lt:=Heap.lt_size eb
  rw [sortedHeap_old (Nat.ne_of_lt lt) (by rw [size_push'];exact Nat.lt_succ_of_lt lt)]
  exact Heap.get?_push_of_some _ eb
 exact wpAny_pure ⟨_,rfl,.ref h1.objs.size,upd H h1.objs.size (.lst (ys.map V.str)),J.laid (t':=tk) old (Nat.le_refl _) (show ObjOk X.prog X.w _ _ _ (.lst (ys.map V.str)) from ⟨hl2,(Array.map (fun x=>x.2) (arrOf gG)).toList,e',vals_of_strs p1,he'⟩),rfl,q _ _ p2 p3 (J.hok.fresh (Nat.le_refl _))⟩
end
end Oz
namespace Oz
open PySem L2 PyProof.Rows
section
variable {G:bB} {M:aF} {W:WX} {X:Cx} {k:Nat} {a b:Expr} {ca cb:E} {p pos cH:Pos} {es:List Expr} {cU:Es}
theorem adF (g:Good G k X) (op:CmpOp) (ha:PE X a (tE G M W ca)) (hb:PE X b (tE G M W cb)) (hm:behindInMarks op b=false):PE X (.Compare a [op] [b] pos) (tE G M W (.cmp op ca cb)):=
 (pe_cmpR (zW g op) ha hb hm).imp fun σ H Q ⟨ρ,η,S,s,r,h⟩=>⟨ρ,η,S,s,r,by
  simp only [ev] at h
  refine (PR.bind h).mono fun ρ1 H1 x S1 bU s1 h1 v hv=>⟨ρ1,η,S1,s1,r.step bU,(PR.bind h1).mono fun ρ2 H2 y S2 st2 s2 h2 w hw=> ?_⟩
  obtain ⟨z,e,h3⟩:=(PR.bind h2).gY
  exact ⟨ρ2,S2,x,y,z,s2,hv.step st2,hw,e,(h3.here s2).here s2 _ (by simp only [VR])⟩⟩
theorem aeq (g:Good G k X) (op:CmpOp) (ha:PE X a (tE G M W ca)) (hb:PE X b (tE G M W cb)) (hm:behindInMarks op b=false):PT X (.Compare a [op] [b] pos) (tQ G M W (.cmp op ca cb)):=
 (pt_cmpR (zW g op) ha hb hm).imp fun σ H Q ⟨ρ,η,S,s,r,h⟩=>⟨ρ,η,S,s,r,by
  simp only [ev] at h
  refine (PR.bind h).mono fun ρ1 H1 x S1 bU s1 h1 v hv=>⟨ρ1,η,S1,s1,r.step bU,(PR.bind h1).mono fun ρ2 H2 y S2 st2 s2 h2 w hw=> ?_⟩
  obtain ⟨z,e,h3⟩:=(PR.bind h2).gY
  obtain ⟨d,e2,q⟩:=(h3.here s2).here s2
  exact ⟨ρ2,S2,x,y,z,s2,hv.step st2,hw,e,_,rfl,by cases e2;exact q⟩⟩
def B1.nm:B1→Str
 | .len=>"len" | .all=>"all" | .any=>"any" | .tuple=>"tuple" | .repr=>"repr" | .str=>"str" | .int=>"int" | .sum=>"sum" | .max=>"max"
theorem tB1 (f:B1) (σ:L2.St) (H:Hp) (Q:VK) (h:tE G M W (.b1 f ca) σ H Q):tCB (rB1 G f) (tCons (tE G M W ca) tNil) σ H Q:=by
 obtain ⟨ρ,η,S,s,r,h⟩:=h
 simp only [ev] at h
 refine ⟨ρ,η,S,s,r,(PR.bind h).mono fun ρ1 H1 x S1 bU s1 h1 v hv=> ?_⟩
 obtain ⟨z,e,h2⟩:=h1.gY
 exact ⟨ρ1,S1,x,z,v,rfl,s1,hv,e,h2⟩
theorem bM [bT G X] (g:Good G k X) (f:B1) (hg:Gl X f.nm) (hm:X.mg f.nm=none) (ha:PE X a (tE G M W ca)) (hs:starEach [a] X.env=[(false,eval a X.env)]:=by rfl) (he:starEach [a] X.env=(false,eval a X.env)::starEach [] X.env:=by rfl) (jt:(backTo pos (starEach [] X.env)).any (·.1)=false:=by rfl) :
  PE X (.Call (.Name f.nm p) [a] [] pos) (tE G M W (.b1 f ca)):=by
 have hA:=vJ (M:=M) (W:=W) ha hs
 cases f with
 | len=>exact (pe_callB (id:="len") (zB g .len) hg hm (by decide+kernel) hA (by decide) (by decide) he jt).imp (tB1 .len)
 | all=>exact (pe_callB (id:="all") (zB g .all) hg hm (by decide+kernel) hA (by decide) (by decide) he jt).imp (tB1 .all)
 | any=>exact (pe_callB (id:="any") (zB g .any) hg hm (by decide+kernel) hA (by decide) (by decide) he jt).imp (tB1 .any)
 | repr=>exact (pe_callB (id:="repr") (zB g .repr) hg hm (by decide+kernel) hA (by decide) (by decide) he jt).imp (tB1 .repr)
 | sum=>exact (pe_callB (id:="sum") (zB g .sum) hg hm (by decide+kernel) hA (by decide) (by decide) he jt).imp (tB1 .sum)
 | max=>exact (pe_callB (id:="max") (zB g .max) hg hm (by decide+kernel) hA (by decide) (by decide) he jt).imp (tB1 .max)
 | tuple=>exact (pe_callTy (T:="tuple") (zB g .tuple) hg hm (by decide+kernel) hA (by decide) (by decide) he jt).imp (tB1 .tuple)
 | str=>exact (pe_callTy (T:="str") (zB g .str) hg hm (by decide+kernel) hA (by decide) (by decide) he jt).imp (tB1 .str)
 | int=>exact (pe_callTy (T:="int") (zB g .int) hg hm (by decide+kernel) hA (by decide) (by decide) he jt).imp (tB1 .int)
def Mm.rule:Mm→V→List V→Hp→VK→Prop
 | .append=>rAppend | .pop=>rPop | .QW=>rPopAt | .clear=>rClear
 | .insert=>fun x vs H Q=>∃ (l:Addr) (xs:List V) (i:Int) (y:V),x=.ref l∧vs=[.int i,y]∧H l=some (.lst xs)∧xs.length<sizeLine∧0≤i∧i<2 ^ 63∧Q .non (upd H l (.lst (xs.take i.toNat++[y]++xs.drop i.toNat)))
 | _=>fun _ _ _ _=>False
def Mm.nm:Mm→Str
 | .append=>"append" | .pop=>"pop" | .QW=>"pop" | .clear=>"clear" | .extend=>"extend" | .insert=>"insert"
theorem au.dropLast {ρ:List Addr} {H:Hp} {xs:List Vl} {vs:List V} (h:au G ρ H xs vs):au G ρ H xs.dropLast vs.dropLast:=by
 rw [List.dropLast_eq_take,List.dropLast_eq_take,h.length]
 exact h.take _
theorem au.erase {ρ:List Addr} {H:Hp}:∀ {xs:List Vl} {vs:List V} (i:Nat),au G ρ H xs vs→au G ρ H (xs.eraseIdx i) (vs.eraseIdx i)
 | [],vs,i,h=>by simp only [au] at h;subst h;exact au.nil
 | x::xs,vs,0,h=>by simp only [au] at h;obtain ⟨v,r,rfl,_,h2⟩:=h;exact h2
 | x::xs,vs,i+1,h=>by simp only [au] at h;obtain ⟨v,r,rfl,h1,h2⟩:=h;exact au.cons h1 (au.erase i h2)
theorem agn {ρ:List Addr} {H:Hp} (m:Mm) {ys xs zs:List Vl} {v:Vl} {l:Addr} {vs as:List V} {Q:VK} (e:KJ m ys xs=some (v,zs)) (hl:H l=some (.lst vs)) (hy:au G ρ H ys vs) (hx:au G ρ H xs as)
  (q:∀ w ws,VR G ρ H v w→au G ρ H zs ws→Q w (upd H l (.lst ws))):m.rule (.ref l) as H Q:=by
 unfold KJ at e
 split at e
 ·rename_i y
  split at e
  ·rename_i hz
   simp only [Option.some.injEq,Prod.mk.injEq] at e
   obtain ⟨rfl,rfl⟩:=e
   simp only [au] at hx
   obtain ⟨w,r,rfl,hw,rfl⟩:=hx
   exact ⟨l,vs,w,rfl,rfl,hl,by rw [← hy.length];exact hz,q _ _ (by simp only [VR]) (hy.append (au.cons hw au.nil))⟩
  ·cases e
 ·split at e
  ·rename_i y ey
   simp only [Option.some.injEq,Prod.mk.injEq] at e
   obtain ⟨rfl,rfl⟩:=e
   simp only [au] at hx
   subst hx
   obtain ⟨w,e1,e2⟩:=hy.get ey
   exact ⟨l,vs,w,rfl,rfl,hl,by rw [← hy.length];exact e1,q _ _ e2 hy.dropLast⟩
  ·cases e
 ·rename_i i
  split at e
  ·rename_i hi
   obtain ⟨n,e1,e2⟩:=Option.bind_eq_some_iff.mp e
   obtain ⟨y,e3,e4⟩:=Option.map_eq_some_iff.mp e2
   simp only [Prod.mk.injEq] at e4
   obtain ⟨rfl,rfl⟩:=e4
   simp only [au,VR] at hx
   obtain ⟨w,r,rfl,rfl,rfl⟩:=hx
   obtain ⟨w,g1,g2⟩:=hy.get e3
   exact ⟨l,vs,i,n,w,rfl,rfl,hl,hi.1,hi.2,by rw [← hy.length];exact e1,g1,q _ _ g2 (hy.erase n)⟩
  ·cases e
 ·simp only [Option.some.injEq,Prod.mk.injEq] at e
  obtain ⟨rfl,rfl⟩:=e
  simp only [au] at hx
  subst hx
  exact ⟨l,vs,rfl,rfl,hl,q _ _ (by simp only [VR]) au.nil⟩
 ·rename_i i y
  split at e
  ·rename_i hc
   simp only [Option.some.injEq,Prod.mk.injEq] at e
   obtain ⟨rfl,rfl⟩:=e
   simp only [au] at hx
   obtain ⟨w0,r,rfl,hw0,w,r',rfl,hw,rfl⟩:=hx
   simp only [VR] at hw0;subst hw0
   exact ⟨l,vs,i,w,rfl,rfl,hl,by rw [← hy.length];exact hc.1,hc.2.1,hc.2.2,q _ _ (by simp only [VR]) (((hy.take _).append (au.cons hw au.nil)).append (hy.drop _))⟩
  ·cases e
 ·cases e
theorem Yn {S:Hs} {x:Vl} {r:Nat} (h:pZ S x=some r):x=.ref r∧∃ ys,S[r]? =some (.lst ys):=by
 unfold pZ at h
 split at h
 ·split at h
  ·rename_i ys e;cases h;exact ⟨rfl,ys,e⟩
  ·cases h
 ·cases h
theorem acM {ρ:List Addr} {H:Hp} {S:Hs} {r:Nat} {l:Addr} {zs:List Vl} {ws:List V} (s:bf G ρ H S) (hr:ρ[r]? =some l) (nf:∀ od u,H l≠some (.frz od u)) (hz:au G ρ H zs ws):Step ρ H ρ (upd H l (.lst ws))∧bf G ρ (upd H l (.lst ws)) (S.set r (.lst zs)):=by
 have st:Step ρ H ρ (upd H l (.lst ws)):=⟨List.prefix_refl _,fun b o hb hn=>by
  rw [upd_ne fun e=>hn (by subst e;exact List.mem_of_getElem? hr)];exact hb,fun b hb=>.inl hb,o8 nf⟩
 exact bf.put s hr nf ⟨ws,upd_same,au.step st _ _ hz⟩
theorem ahp (m:Mm) (g:Good G k X) (σ:L2.St) (H:Hp) (Q:VK) (h:tE G M W (.mut m ca cU) σ H Q):tBM X.K "list" m.rule (tE G M W ca) (tA G M W cU) σ H Q:=by
 obtain ⟨ρ,η,S,s,r,h⟩:=h
 simp only [ev] at h
 refine ⟨ρ,η,S,s,r,(PR.bind h).mono fun ρ1 H1 x S1 bU s1 h1 v hv=> ?_⟩
 cases el:pZ S1 x with
 | none=>rw [el] at h1;exact h1.elim
 | some n=>
  rw [el] at h1
  obtain ⟨rfl,ys0,e0⟩:=Yn el
  obtain ⟨l,rfl,hl,vs0,hl0,_⟩:=s1.ref hv e0
  refine ⟨.inl ⟨rfl,vs0,SqL.of hl0⟩,ρ1,η,S1,s1,r.step bU,(PR.bind h1).mono fun ρ2 H2 xs S2 st2 s2 h2 as ha=> ?_⟩
  split at h2
  ·rename_i ys ey
   split at h2
   ·rename_i v zs em
    obtain ⟨l',e',hl',vs,hv2,xO⟩:=s2.ref (hv.step st2) ey
    cases e'
    refine agn m em hv2 xO ha fun w ws hw hz=> ?_
    obtain ⟨lN,s3⟩:=acM s2 hl' (fun od u z=>by rw [hv2] at z;cases z) hz
    exact h2 ρ2 _ lN s3 w (hw.step lN)
   ·exact h2.elim
  ·exact h2.elim
section
variable {e:Expr}
theorem jQ (g:Good G k X) (m:Mm) (hm:m=.append∨m=.QW∨m=.insert) (ha:PE X a (tE G M W ca)) (hes:PA X (e::es) (tA G M W cU)) (fM:attributeBase a m.nm X.env (eval a X.env)=eval a X.env:=by rfl)
  (SQ:((backTo pos (starEach (e::es) X.env)).all (fun x=> !x.1)&&(backToKw pos (keywordEach [] X.env)).all (fun x=>x.1.isSome)
   &&decide ((e::es).length+([]:List Keyword).length+(if ([]:List Keyword).isEmpty then 0 else 1)<30))=true:=by rfl)
  (fL:(cH.endLine==pos.line)=true:=by rfl) (hs:starEach (e::es) X.env=(false,eval e X.env)::starEach es X.env:=by rfl) (rO:(backTo pos (starEach es X.env)).any (·.1)=false:=by rfl) :
  PE X (.Call (.Attribute a m.nm cH) (e::es) [] pos) (tE G M W (.mut m ca cU)):=by
 rcases hm with rfl | rfl | rfl
 ·exact (pe_bm F.plainAttrs_list F.slot_list_append F.type_list_append mt_append ha hes fM SQ fL hs rO).imp (ahp .append g)
 ·exact (pe_bm F.plainAttrs_list F.slot_list_pop F.type_list_pop mt_popAt ha hes fM SQ fL hs rO).imp (ahp .QW g)
 ·exact (pe_bm F.plainAttrs_list F.slot_list_insert F.type_list_insert mt_insert ha hes fM SQ fL hs rO).imp (ahp .insert g)
theorem pU (g:Good G k X) (ha:PE X a (tE G M W ca)) (hb:PE X b (tE G M W cb)) (hs:starEach [b] X.env=[(false,eval b X.env)]:=by rfl) (fM:attributeBase a "join" X.env (eval a X.env)=eval a X.env:=by rfl) (fL:(cH.endLine==pos.line)=true:=by rfl) :
  PE X (.Call (.Attribute a "join" cH) [b] [] pos) (tE G M W (.tm .join ca cb)):=(pe_join ha hb hs fM fL).imp fun σ H Q ⟨ρ,η,S,s,r,h⟩=>⟨ρ,η,S,s,r,by
 simp only [ev] at h
 refine (PR.bind h).mono fun ρ1 H1 x S1 bU s1 h1 v hv=> ?_
 cases x with
 | str z=>
  simp only [VR] at hv
  subst hv
  refine ⟨⟨z,rfl⟩,ρ1,η,S1,s1,r.step bU,(PR.bind h1).mono fun ρ2 H2 y S2 st2 s2 h2 w hw=> ?_⟩
  obtain ⟨q,e,h3⟩:=h2.gY
  unfold zu at e
  simp only at e
  cases es:cV S2 y with
  | none=>rw [es] at e;cases e
  | some xs=>
   rw [es] at e
   simp only [Option.bind] at e
   cases ea:uC xs with
   | none=>rw [ea] at e;cases e
   | some zs=>
    rw [ea] at e
    simp only at e
    split at e
    ·rename_i hz
     cases e
     obtain ⟨p,vs,rfl,h4,h5⟩:=uR s2 hw es
     have e6:=h5.strs ea
     subst e6
     exact ⟨z,p,zs,rfl,rfl,by rw [g.K];exact h4,hz,h3.here s2 _ (by simp only [VR])⟩
    ·cases e
 | _=>exact h1.elim⟩
end
def ana (K:PySem.W.Frag):R2:=fun x y H Q=>∃ l n xs,x=V.ref l∧y=V.int n∧SqL K H l xs∧0≤n∧n<2 ^ 63∧xs.length* n.toNat≤sizeLine∧∀ p,H p=none→Q (.ref p) (upd H p (.lst (List.replicate n.toNat xs).flatten))
end
end Oz
namespace Oz
open PySem PySem.Spec L2 PyProof.Rows
section
variable {G:bB} {k:Nat} {X:Cx} {M:aF} {W:WX} {a b:Expr} {ca cb:E} {pos cH:Pos}
theorem DQ (g:Good G k X) (ha:PE X a (tE G M W ca)) (hb:PE X b (tE G M W cb)) (hs:starEach [b] X.env=[(false,eval b X.env)]:=by rfl) (fM:attributeBase a "partition" X.env (eval a X.env)=eval a X.env:=by rfl) (fL:(cH.endLine==pos.line)=true:=by rfl) :
  PE X (.Call (.Attribute a "partition" cH) [b] [] pos) (tE G M W (.tm .part ca cb)):=(pe_partition ha hb hs fM fL).imp fun σ H Q ⟨ρ,η,S,s,r,h⟩=>⟨ρ,η,S,s,r,by
 simp only [ev] at h
 refine (PR.bind h).mono fun ρ1 H1 x S1 bU s1 h1 v hv=> ?_
 cases x with
 | str z=>
  simp only [VR] at hv
  subst hv
  refine ⟨⟨z,rfl⟩,ρ1,η,S1,s1,r.step bU,(PR.bind h1).mono fun ρ2 H2 y S2 st2 s2 h2 w hw=> ?_⟩
  obtain ⟨q,e,h3⟩:=h2.gY
  unfold zu at e
  cases y with
  | str t=>
   simp only at e
   split at e
   ·rename_i hz
    cases e
    simp only [VR] at hw
    subst hw
    refine ⟨z,t,rfl,rfl,by simpa using hz.1,hz.2,fun p hp=> ?_⟩
    have xO:au G ρ2 H2 [.str (Txt.partition z t).1,.str (Txt.partition z t).2.1,.str (Txt.partition z t).2.2] [V.str (Txt.partition z t).1,.str (Txt.partition z t).2.1,.str (Txt.partition z t).2.2]:=au.cons (by simp only [VR]) (au.cons (by simp only [VR]) (au.cons (by simp only [VR]) au.nil))
    exact Jh.tup (ρ:=ρ2) (fun ρ' H' st s'=>PR.here (h3.step st) s') s2 xO hp
   ·cases e
  | _=>simp only at e;cases e
 | _=>exact h1.elim⟩
end
end Oz
namespace Oz
open PySem L2 PyProof.Rows
section
variable {G:bB} {k n:Nat} {X:Cx} {M:aF} {W:WX} {f:Addr} {fd:FuncData} {ps:List Str} {ds:List Value} {q c m:Str} {a b e:Expr} {es:List Expr} {ca cb:E} {cU:Es} {p pos cH:Pos} {dxs:List Vl} {dvs:List V}
theorem ym {ρ:List Addr} {H:Hp} {S:Hs} {x:Vl} {v:V} (s:bf G ρ H S) (hv:VR G ρ H x v) (h:lF S x c m=true):∃ a dx fs,v=.ref a∧H a=some (.ins (G.cl c) dx fs)∧fs.lookup m=none:=by
 unfold lF at h
 split at h
 ·rename_i d ns vs ei
  rw [Bool.and_eq_true] at h
  have h1:d=c:=of_decide_eq_true h.1
  subst h1
  obtain ⟨a,dx,fs,rfl,h2,h3,_⟩:=Mq s hv ei
  refine ⟨a,dx,fs,rfl,h2,?_⟩
  have h4:m∉ns:=fun z=>by
   have h5:=h.2
   rw [List.contains_iff_mem.mpr z] at h5
   cases h5
  rw [← h3] at h4
  exact List.lookup_eq_none_iff.mpr fun p hp=>bne_iff_ne.mpr fun z=>h4 (List.mem_map.mpr ⟨p,hp,z.symm⟩)
 ·cases h
def tMc (X:Cx) (k n:Nat) (G:bB) (M:aF) (c m:Str) (W:WX) (ca:E) (cU:Es) (dxs:List Vl):TE:=fun σ H Q=>∃ ρ η S,bf G ρ H S∧ER G ρ H η σ∧PR G W σ ρ H (ev M ca η S) fun ρ1 H1 x S1=>lF S1 x c m=true∧PR G W σ ρ1 H1 (evs M cU η S1) fun ρ2 H2 xs S2=>xs.length+1+dxs.length=n∧PR G W σ ρ2 H2 (M.cal (dot c m) (x::(xs++dxs)) S2) (okR G H2 Q)
theorem ad8 {pl:Sem Bool} [bT G X] (g:Good G (k+1) X) (F:qu X.prog X.w X.K X.mg X.base k f fd ps (spI G M n (dot c m))) (hC:Cls X.K (G.cl c)) (hm:Meth X.K (G.cl c) m f) (hb:Binds X.K fd ps ds) (hd:Vals dvs ds) (hc:Bg G dxs dvs) (tk:Takes X W)
  (ha:PE X a (tE G M W ca)) (hes:PA X (e::es) (tA G M W cU)) (Ru:starEach (e::es) X.env=(false,eval e X.env)::starEach es X.env:=by rfl) (jt:(backTo pos (starEach es X.env)).any (·.1)=false:=by rfl)
  (ht:eval (.Call (.Attribute a m cH) (e::es) [] pos) X.env=(do
   let ov ← eval a X.env
   standAt cH.atName
   let (f,first) ← holding [ov] (getMethod ov m pl)
   callWith pos f first (backTo pos (starEach (e::es) X.env)) (backToKw pos (keywordEach [] X.env))):=by rfl) :
  PE X (.Call (.Attribute a m cH) (e::es) [] pos) (tMc X k n G M c m W ca cU dxs):=by
 refine ⟨fun pins s σ H Q I ⟨ρ,η,S,s0,r,h⟩=> ?_⟩
 have hr:Room k X.A:=g.rm.mono (Nat.le_succ _)
 refine PySem.W.methodCall_KW (pl:=pl) (thn (ha.run pins s σ H (fun v H1=>∃ x ρ1 S1,Step ρ H ρ1 H1∧bf G ρ1 H1 S1∧VR G ρ1 H1 x v∧lF S1 x c m=true∧PR G W σ ρ1 H1 (evs M cU η S1) fun ρ2 H2 xs S2=>xs.length+1+dxs.length=n∧PR G W σ ρ2 H2 (M.cal (dot c m) (x::(xs++dxs)) S2) (okR G H2 Q)) I ⟨ρ,η,S,s0,r,h.mono fun ρ1 H1 x S1 bU s1 h1 v hv=>⟨x,ρ1,S1,bU,s1,hv,h1⟩⟩) fun u s1 ⟨v,H1,I1,rv,x,ρ1,S1,bU,sm1,hv,hM,hp⟩=> ?_) ht
 obtain ⟨a',dx,fs,rfl,ea,l⟩:=ym sm1 hv hM
 obtain rfl:u=Value.ref a':=rv
 refine getmeth_ok I1 ea hC hm l ?_
 refine PySem.W.callWith_K (first:=[.ref a']) (h₀:=X.base) I.ok.mod.kin hm.kp (thn (hes.run pos pins s1 σ H1 (fun vs H2=>∃ xs ρ2 S2,Step ρ1 H1 ρ2 H2∧bf G ρ2 H2 S2∧au G ρ2 H2 xs vs∧xs.length+1+dxs.length=n∧PR G W σ ρ2 H2 (M.cal (dot c m) (x::(xs++dxs)) S2) (okR G H2 Q)) I1 ⟨ρ1,η,S1,sm1,r.step bU,hp.mono fun ρ2 H2 xs S2 st2 s2 h2 vs hv2=>⟨xs,ρ2,S2,st2,s2,hv2,h2⟩⟩) fun us s2 ⟨vs,H2,I2,rvs,xs,ρ2,S2,st2,sm2,xO,hl,zG⟩=>⟨I2.kIn,?_⟩) Ru jt
 refine abT (us:=.ref a'::us) (vs:=.ref a'::vs) F hr g.N7 hb hd tk I2 (.cons rfl rvs) ⟨?_,ρ2,S2,x::(xs++dxs),sm2,au.cons (hv.step st2) (xO.append (hc _ _)),PR.vo zG⟩
 rw [List.length_append,List.length_cons,← xO.length,← (hc ρ2 H2).length];exact hl
theorem acR {pl:Sem Bool} [bT G X] (g:Good G (k+1) X) (F:qu X.prog X.w X.K X.mg X.base k f fd ps (spI G M n (dot c m))) (hC:Cls X.K (G.cl c)) (hm:Meth X.K (G.cl c) m f) (hb:Binds X.K fd ps ds) (hd:Vals dvs ds) (hc:Bg G dxs dvs) (tk:Takes X W)
  (ha:PE X a (tE G M W ca))
  (ht:eval (.Call (.Attribute a m cH) [] [] pos) X.env=(do
   let ov ← eval a X.env
   standAt cH.atName
   let (f,first) ← holding [ov] (getMethod ov m pl)
   callWith pos f first (backTo pos (starEach [] X.env)) (backToKw pos (keywordEach [] X.env))):=by rfl) :
  PE X (.Call (.Attribute a m cH) [] [] pos) (tMc X k n G M c m W ca .nil dxs):=by
 refine ⟨fun pins s σ H Q I ⟨ρ,η,S,s0,r,h⟩=> ?_⟩
 have hr:Room k X.A:=g.rm.mono (Nat.le_succ _)
 refine PySem.W.methodCall_KW (pl:=pl) (thn (ha.run pins s σ H (fun v H1=>∃ x ρ1 S1,Step ρ H ρ1 H1∧bf G ρ1 H1 S1∧VR G ρ1 H1 x v∧lF S1 x c m=true∧PR G W σ ρ1 H1 (evs M .nil η S1) fun ρ2 H2 xs S2=>xs.length+1+dxs.length=n∧PR G W σ ρ2 H2 (M.cal (dot c m) (x::(xs++dxs)) S2) (okR G H2 Q)) I ⟨ρ,η,S,s0,r,h.mono fun ρ1 H1 x S1 bU s1 h1 v hv=>⟨x,ρ1,S1,bU,s1,hv,h1⟩⟩) fun u s1 ⟨v,H1,I1,rv,x,ρ1,S1,bU,sm1,hv,hM,hp⟩=> ?_) ht
 obtain ⟨a',dx,fs,rfl,ea,l⟩:=ym sm1 hv hM
 obtain rfl:u=Value.ref a':=rv
 simp only [evs] at hp
 obtain ⟨hl,zG⟩:=hp.here sm1
 refine getmeth_ok I1 ea hC hm l ?_
 refine PySem.W.callWith_K0 (first:=[.ref a']) I1.kIn hm.kp (abT (us:=[.ref a']) (vs:=[.ref a']) F hr g.N7 hb hd tk I1 (.cons rfl .nil) ⟨?_,ρ1,S1,x::dxs,sm1,au.cons hv (hc _ _),PR.vo zG⟩)
 simp only [List.length_nil] at hl
 rw [List.length_append,← (hc ρ1 H1).length]
 simp only [List.length_cons,List.length_nil]
 omega
theorem V1 {σ:L2.St} {H:Hp} {Q:VK} (hn:cU.len+1+dxs.length=n) (h:tE G M W (.Zi c m ca (cU.app dxs)) σ H Q):tMc X k n G M c m W ca cU dxs σ H Q:=by
 obtain ⟨ρ,η,S,s0,r,h⟩:=h
 simp only [ev] at h
 refine ⟨ρ,η,S,s0,r,(PR.bind h).mono fun ρ1 H1 x S1 bU s1 h1=> ?_⟩
 split at h1
 ·rename_i hM
  refine ⟨hM,?_⟩
  rw [qC] at h1
  cases e:evs M cU η S1 with
  | ok xs S2=>
   rw [e] at h1
   simp only [Res.bind] at h1
   exact fun ρ2 H2 st s=>⟨by rw [mJ _ _ _ _ _ e];exact hn,PR.aaO s1 st s (PR.step h1 st)⟩
  | exc x S2=>rw [e] at h1;exact h1
  | bad=>rw [e] at h1;exact h1
 ·exact h1.elim
theorem R6 {A:Around} {pins:List (Addr × Obj)} {σ:L2.St} {H:Hp} {s:Shared} {Q:VK} {us:List Value} {vs:List V} {sp:Sp} {E':Value→Shared→Prop} (F:qu X.prog X.w X.K X.mg X.base k f fd ps sp) (hr:Room k A) (hg:A.guards=some []) (hfr:A.frames=X.A.frames) (hb:Binds X.K fd ps [])
  (I:Inv X pins σ H s) (r:Vals vs us) (h:sp vs H Q (fun _ _ _=>False)):wpAny (model X.prog X.w) A (call (.ref f) us) (EP X pins σ Q) E' s:=by
 have len:us.length=ps.length:=r.length.symm.trans (F.len _ _ _ _ h)
 have e0:Env0 X.prog X.w X.K X.mg X.base A X.stack s H:=by
  have e:=I.env0
  exact ⟨hfr.trans e.frames,e.mod,e.bs,e.bsz,e.funs,e.frf,e.hok,e.bare⟩
 have hb':=hb s us I.kIn (by simpa using len)
 rw [List.append_nil] at hb'
 refine wpAny_call (codeAny_mono (F.run A X.stack s H ⟨us,[]⟩ us vs Q _ hr hg e0 hb' r h) ?_)
 intro r' s' hq
 match r',hq with
 | .error e,hq=>obtain ⟨_,_,_,_,_,_,_,_,_,_,_,_,hE⟩:=hq;exact hE.elim
 | .ok (.ret u),hq=>exact I.after hq
 | .ok .next,hq=>exact hq.elim
 | .ok .brk,hq=>exact hq.elim
 | .ok .cont,hq=>exact hq.elim
theorem RJ {α:Type} {ρ:List Addr} {H:Hp} {σ:L2.St} {r:Res α} {ok:List Addr→Hp→α→Hs→Prop} (h:PR G W σ ρ H (Rr r) ok):PR G (fun _ _ _ _=>False) [] ρ H r ok:=by
 cases r with
 | ok a S=>exact h
 | exc x S=>exact h.elim
 | bad=>exact h
theorem Nm {ρ:List Addr} {H:Hp} {S:Hs} {σ:L2.St} {W':WX} {xs:List Vl} {ok:List Addr→Hp→Vl→Hs→Prop} {Q:VK} (s0:bf G ρ H S) (h:PR G W' σ ρ H (qj M q xs S) ok) (hQ:∀ ρ' H' x S' v,Step ρ H ρ' H'→bf G ρ' H' S'→ok ρ' H' x S'→VR G ρ' H' x v→Q v H'):PR G W' σ ρ H (M.cal q xs S) (okR G H Q):=
 PR.aaO s0 (Step.refl _ _) s0 (h.mono fun ρ' H' x S' st s' h' v hv=>hQ ρ' H' x S' v st s' h' hv)
def aiP (G:bB) (M:aF) (c:Str):List V→Hp→VK→Prop:=fun xs H Q=>∃ ρ S x v,xs=[v]∧bf G ρ H S∧VR G ρ H x v∧lF S x c "__len__"=true∧PR G (fun _ _ _ _=>False) [] ρ H (qj M (dot c "__len__") [x] S) fun _ H' z _=>∃ n,z=.int n∧0≤n∧n<2 ^ 63∧Q (.int n) H'
theorem ac3 [bT G X] (g:Good G (k+1) X) (F:qu X.prog X.w X.K X.mg X.base k f fd ps (spI G M 1 (dot c "__len__"))) (hs:PySem.W.findIn X.K (.ref (G.cl c)) "__len__"=some (some (.ref f))) (hf:PySem.W.isFn X.K (.ref f)=true) (hb:Binds X.K fd ps []):CallR X (.builtin "len") (aiP G M c):=by
 intro pins s σ H xs us Q I r h
 obtain ⟨ρ,S,x,v,rfl,s0,hv,hM,hp⟩:=h
 obtain ⟨a',dx,fs,rfl,ea,l⟩:=ym s0 hv hM
 rw [Vals.ref1 r]
 obtain ⟨mA,J,_⟩:=ins_get I.hok ea
 obtain ⟨od,J,_⟩:=J.look
 obtain ⟨m',hF⟩:=I.fr
 refine PySem.W.len_K hF I.ok.mod.kin J hs hf (wpAny_mono (R6 (vs:=[.ref a']) (E':=X.xe) (A:=X.A.in1) (Q:=fun z H'=>∃ n,z=.int n∧0≤n∧n<2 ^ 63∧Q (.int n) H') F g.rm.in1 g.N7 rfl hb I (.cons rfl .nil) ⟨rfl,ρ,S,[x],s0,au.cons hv au.nil,?_⟩) (fun u s1 ⟨z,H1,I1,rz,n,ez,h0,h1,q⟩=> ?_) fun _ _ z=>z)
 ·exact Nm s0 hp fun ρ' H' x S' v st s' ⟨n,e,h0,h1,q⟩ hv=>by
   subst e
   simp only [VR] at hv
   exact ⟨n,hv,h0,h1,q⟩
 ·subst ez
  obtain ⟨t,rfl⟩:=rz
  exact ⟨⟨h0,h1⟩,.int n,H1,I1.tok _,⟨_,rfl⟩,q⟩
theorem aes [bT G X] (g:Good G (k+1) X) (F:qu X.prog X.w X.K X.mg X.base k f fd ps (spI G M 1 (dot c "__len__"))) (hs:PySem.W.findIn X.K (.ref (G.cl c)) "__len__"=some (some (.ref f))) (hf:PySem.W.isFn X.K (.ref f)=true) (hb:Binds X.K fd ps []) (hg:Gl X "len") (hm:X.mg "len"=none) (ha:PE X a (tE G M W ca)) (Tj:starEach [a] X.env=[(false,eval a X.env)]:=by rfl) (he:starEach [a] X.env=(false,eval a X.env)::starEach [] X.env:=by rfl) (jt:(backTo pos (starEach [] X.env)).any (·.1)=false:=by rfl) :
  PE X (.Call (.Name "len" p) [a] [] pos) (tE G M W (.agR c ca)):=(pe_callB (ac3 g F hs hf hb) hg hm (by decide+kernel) (vJ ha Tj) (by decide) (by decide) he jt).imp fun σ H Q ⟨ρ,η,S,s,r,h⟩=>⟨ρ,η,S,s,r,by
 simp only [ev] at h
 refine (PR.bind h).mono fun ρ1 H1 x S1 bU s1 h1 v hv=> ?_
 split at h1
 ·rename_i hM
  refine ⟨ρ1,S1,x,v,rfl,s1,hv,hM,RJ ((PR.bind h1).mono fun ρ2 H2 z S2 st2 s2 h2=> ?_)⟩
  split at h2
  ·split at h2
   ·rename_i hn
    exact ⟨_,rfl,hn.1,hn.2,h2.here s2 _ (by simp only [VR])⟩
   ·exact h2.elim
  ·exact h2.elim
 ·exact h1.elim⟩
theorem Qs {Mo:Model} {h:Heap} {y:Addr} {o:Obj} (ho:h.get? y=some o):PySem.W.Looks Mo h (typeOf (.ref y)) o.cls:=(PySem.W.Looks.ld ho).andThen .now
theorem Xq {Mo:Model} {pins:List (Addr × Obj)} {σ:L2.St} {s:Shared} {ρ:List Addr} {H:Hp} {S:Hs} {y:Vl} {w:V} {u:Value} (g:Good G k X) (I:Inv X pins σ H s) (s0:bf G ρ H S) (hw:VR G ρ H y w) (ru:RelV w u) (h:eqY S c y=true) :
  PySem.W.Looks Mo s.heap (typeOf u) (.ref (G.cl c))∨∃ T:String,(T="list"∨T="str"∨T="tuple")∧PySem.W.Looks Mo s.heap (typeOf u) (.type T):=by
 unfold eqY at h
 split at h
 ·rename_i d ns vs ei
  have h1:d=c:=of_decide_eq_true h
  subst h1
  obtain ⟨a,dx,fs,rfl,h2,_⟩:=Mq s0 hw ei
  cases ru
  obtain ⟨mA,J,_⟩:=ins_get I.hok h2
  obtain ⟨od,J,_⟩:=J.look
  exact .inl J.type
 ·rename_i ei
  split at h
  ·simp only [VR] at hw
   subst hw
   obtain ⟨t,rfl⟩:=ru
   exact .inr ⟨"str",.inr (.inl rfl),PySem.W.Looks.of_pure rfl⟩
  ·rename_i xs
   simp only [VR] at hw
   obtain ⟨a,vs,rfl,h1,h2⟩:=hw
   cases ru
   obtain ⟨its,_,⟨o,ho,hcl,_⟩,_⟩:=I.tuple (a:=a) (xs:=vs) (by rw [g.K];exact h1.sq)
   exact .inr ⟨"tuple",.inr (.inr rfl),by rw [← hcl];exact Qs ho⟩
  ·obtain ⟨xs,ex⟩:=Option.isSome_iff_exists.mp h
   obtain ⟨a,vs,rfl,h1,_⟩:=lU s0 hw ex
   cases ru
   obtain ⟨its,_,⟨o,n,ho,hcl,_⟩,_⟩:=I.list (a:=a) (xs:=vs) (.inl h1)
   exact .inr ⟨"list",.inl rfl,by rw [← hcl];exact Qs ho⟩
structure EqC (K:PySem.W.Frag) (C f:Addr):Prop where
 eq:PySem.W.findIn K (.ref C) "__eq__"=some (some (.ref f))
 fn:PySem.W.isFn K (.ref f)=true
 ne:PySem.W.findIn K (.ref C) "__ne__"=some (some (.builtin "object.__ne__"))
 ob:PySem.W.mroIn K C (.type "object")=some true
 nf:∀ T:String,T="list"∨T="str"∨T="tuple"→PySem.W.notFirst K C (.type T)=true
def aiu (G:bB) (M:aF) (c:Str) (ng:Bool):R2:=fun x y H Q=>∃ ρ S a b,bf G ρ H S∧VR G ρ H a x∧VR G ρ H b y∧lF S a c "__eq__"=true∧eqY S c b=true∧PR G (fun _ _ _ _=>False) [] ρ H (qj M (dot c "__eq__") [a,b] S) fun _ H' z _=>∃ d,z=.bl d∧Q (.bl (if ng then !d else d)) H'
theorem aeG {A:Around} {pins:List (Addr × Obj)} {σ:L2.St} {H:Hp} {s:Shared} {Q:VK} {E':Value→Shared→Prop} {ρ:List Addr} {S:Hs} {x y:Vl} {v w:V} {u1 u2:Value} {ng:Bool} (F:qu X.prog X.w X.K X.mg X.base k f fd ps (spI G M 2 (dot c "__eq__"))) (hr:Room k A) (hg:A.guards=some []) (hfr:A.frames=X.A.frames) (hb:Binds X.K fd ps []) (I:Inv X pins σ H s) (s0:bf G ρ H S) (hv:VR G ρ H x v) (hw:VR G ρ H y w) (r1:RelV v u1) (r2:RelV w u2)
  (hp:PR G (fun _ _ _ _=>False) [] ρ H (qj M (dot c "__eq__") [x,y] S) fun _ H' z _=>∃ d,z=.bl d∧Q (.bl (if ng then !d else d)) H'):wpAny (model X.prog X.w) A (call (.ref f) [u1,u2]) (fun z s'=>∃ d H',z=.bool d∧Inv X pins σ H' s'∧Q (.bl (if ng then !d else d)) H') E' s:=by
 refine wpAny_mono (R6 (vs:=[v,w]) (E':=E') (Q:=fun z H'=>∃ d,z=.bl d∧Q (.bl (if ng then !d else d)) H') F hr hg hfr hb I (.cons r1 (.cons r2 .nil)) ⟨rfl,ρ,S,[x,y],s0,au.cons hv (au.cons hw au.nil),?_⟩) (fun u s1 ⟨z,H1,I1,rz,d,ez,q⟩=> ?_) fun _ _ z=>z
 ·exact Nm s0 hp fun ρ' H' x S' v st s' ⟨d,e,q⟩ hv=>by
   subst e
   simp only [VR] at hv
   exact ⟨d,hv,q⟩
 ·subst ez
  cases rz
  exact ⟨d,H1,rfl,I1,q⟩
theorem af5 [bT G X] (g:Good G (k+3) X) (F:qu X.prog X.w X.K X.mg X.base k f fd ps (spI G M 2 (dot c "__eq__"))) (ec:EqC X.K (G.cl c) f) (hb:Binds X.K fd ps []):OpR X (compareOp .Eq) (aiu G M c false):=by
 intro pins s σ H x y v u Q I rx ry ⟨ρ,S,a,b,s0,hva,hvb,hM,hY,hp⟩
 obtain ⟨a',dx,fs,rfl,ea,l⟩:=ym s0 hva hM
 obtain rfl:v=Value.ref a':=rx
 obtain ⟨mA,J,_⟩:=ins_get I.hok ea
 obtain ⟨od,J,_⟩:=J.look
 obtain ⟨m',hF⟩:=I.fr
 have hr:Room k X.A:=g.rm.mono (by omega)
 have body:wpAny (model X.prog X.w) X.A (call (.ref f) [.ref a',u]) (PySem.W.CmpBack (EP X pins σ Q)) X.xe s:=wpAny_mono (aeG (E':=X.xe) (ng:=false) F hr g.N7 rfl hb I s0 hva hvb rfl ry hp) (fun z s' ⟨d,H',e,I',q⟩=>by
  subst e
  exact ⟨.bl d,H',I',rfl,q⟩) fun _ _ z=>z
 show wpAny _ _ (richCompare .Eq (.ref a') u) _ _ _
 rcases Xq (Mo:=model X.prog X.w) g I s0 hvb ry hY with lk | ⟨T,hT,lk⟩
 ·exact PySem.W.cmp_K (op:=.Eq) (tb:=.ref (G.cl c)) hr.units0 hF I.ok.mod.kin J lk (by simp [PySem.W.notFirst]) ec.eq ec.fn body
 ·exact PySem.W.cmp_K (op:=.Eq) (tb:=.type T) hr.units0 hF I.ok.mod.kin J lk (ec.nf T hT) ec.eq ec.fn body
end
section
variable {prog:Program} {w:World} {A:Around} {E:Value→Shared→Prop} {s:Shared} {K:PySem.W.Frag} {x C L f:Addr} {h₀:Heap} {m:Str→Option Value} {ox:Obj} {od:Option Obj} {b:Value}
end
section
variable {G:bB} {k n:Nat} {X:Cx} {M:aF} {W:WX} {f:Addr} {fd:FuncData} {ps:List Str} {c:Str} {a b:Expr} {ca cb:E} {pos:Pos}
theorem alQ (ng:Bool) {σ:L2.St} {H:Hp} {Q:VK} (h:tE G M W (.oeq c ng ca cb) σ H Q):tOp (aiu G M c ng) (tE G M W ca) (tE G M W cb) σ H Q:=by
 obtain ⟨ρ,η,S,s,r,h⟩:=h
 simp only [ev] at h
 refine ⟨ρ,η,S,s,r,(PR.bind h).mono fun ρ1 H1 x S1 bU s1 h1 v hv=>⟨ρ1,η,S1,s1,r.step bU,(PR.bind h1).mono fun ρ2 H2 y S2 st2 s2 h2 w hw=> ?_⟩⟩
 split at h2
 ·rename_i hc
  rw [Bool.and_eq_true] at hc
  refine ⟨ρ2,S2,x,y,s2,hv.step st2,hw,hc.1,hc.2,RJ ((PR.bind h2).mono fun ρ3 H3 z S3 lN s3 h3=> ?_)⟩
  split at h3
  ·exact ⟨_,rfl,h3.here s3 _ (by simp only [VR])⟩
  ·exact h3.elim
 ·exact h2.elim
theorem adZ [bT G X] (g:Good G (k+3) X) (F:qu X.prog X.w X.K X.mg X.base k f fd ps (spI G M 2 (dot c "__eq__"))) (ec:EqC X.K (G.cl c) f) (hb:Binds X.K fd ps []) (ha:PE X a (tE G M W ca)) (ZJ:PE X b (tE G M W cb)) (hm:behindInMarks .Eq b=false):PE X (.Compare a [.Eq] [b] pos) (tE G M W (.oeq c false ca cb)):=
 (pe_cmpR (af5 g F ec hb) ha ZJ hm).imp fun _ _ _ h=>alQ false h
end
end Oz
namespace Oz
open PySem L2 PyProof.Rows
section
variable {G:bB} {ρ ρ' ρ'':List Addr} {H:Hp} {S T:Hs} {n r0:Nat}
mutual
theorem Wu {f:Nat→Option Vl} (hs:∀ a,a∈ρ''→a∈ρ') (hf:∀ r w y,VR G ρ' H (.ref r) w→f r=some y→VR G ρ'' H y w∧y.lim n=true):∀ (x:Vl) (w:V) (y:Vl),VR G ρ' H x w→x.jW f=some y→VR G ρ'' H y w∧y.lim n=true
 | .non,w,y,h,e | .bl _,w,y,h,e | .int _,w,y,h,e | .str _,w,y,h,e=>by
  simp only [Vl.jW,Option.some.injEq] at e
  subst e
  simp only [VR] at h ⊢
  exact ⟨h,by simp [Vl.lim]⟩
 | .tup xs,w,y,h,e=>by
  simp only [Vl.jW] at e
  obtain ⟨ys,e1,rfl⟩:=Option.map_eq_some_iff.mp e
  simp only [VR] at h ⊢
  obtain ⟨a,vs,rfl,h1,h2⟩:=h
  obtain ⟨i1,i2⟩:=je hs hf xs vs ys h2 e1
  exact ⟨⟨a,vs,rfl,h1.imp (fun q=>⟨q.1,fun z=>q.2 (hs a z)⟩) id,i1⟩,by simp only [Vl.lim];exact i2⟩
 | .lst xs,w,y,h,e=>by
  simp only [Vl.jW] at e
  obtain ⟨ys,e1,rfl⟩:=Option.map_eq_some_iff.mp e
  simp only [VR] at h ⊢
  obtain ⟨a,vs,rfl,h1,h2⟩:=h
  obtain ⟨i1,i2⟩:=je hs hf xs vs ys h2 e1
  exact ⟨⟨a,vs,rfl,⟨h1.1,fun z=>h1.2 (hs a z)⟩,i1⟩,by simp only [Vl.lim];exact i2⟩
 | .dct ks xs,w,y,h,e=>by
  simp only [Vl.jW] at e
  obtain ⟨ys,e1,rfl⟩:=Option.map_eq_some_iff.mp e
  simp only [VR] at h ⊢
  obtain ⟨a,vs,rfl,h1,hn,hk,h2⟩:=h
  obtain ⟨i1,i2⟩:=je hs hf xs _ ys h2 e1
  exact ⟨⟨a,vs,rfl,h1,fun z=>hn (hs a z),hk,i1⟩,by simp only [Vl.lim];exact i2⟩
 | .obj c ns xs,w,y,h,e=>by
  simp only [Vl.jW] at e
  obtain ⟨ys,e1,rfl⟩:=Option.map_eq_some_iff.mp e
  simp only [VR] at h ⊢
  obtain ⟨a,dx,vs,rfl,h1,hn,hk,h2⟩:=h
  obtain ⟨i1,i2⟩:=je hs hf xs _ ys h2 e1
  exact ⟨⟨a,dx,vs,rfl,h1,fun z=>hn (hs a z),hk,i1⟩,by simp only [Vl.lim];exact i2⟩
 | .err c ns xs,w,y,h,e=>by
  simp only [Vl.jW] at e
  obtain ⟨ys,e1,rfl⟩:=Option.map_eq_some_iff.mp e
  simp only [VR] at h ⊢
  obtain ⟨a,d,rfl,hg,⟨hd,hx⟩ | ⟨dd,fs,hd,h1,hn,hk,h2⟩⟩:=h
  ·subst hx
   simp only [iV,Option.some.injEq] at e1
   subst e1
   exact ⟨⟨a,d,rfl,hg,.inl ⟨hd,rfl⟩⟩,by simp [Vl.lim,aV]⟩
  ·obtain ⟨i1,i2⟩:=je hs hf xs _ ys h2 e1
   exact ⟨⟨a,d,rfl,hg,.inr ⟨dd,fs,hd,h1,fun z=>hn (hs dd z),hk,i1⟩⟩,by simp only [Vl.lim];exact i2⟩
 | .ref r,w,y,h,e=>by
  simp only [Vl.jW] at e
  exact hf r w y h e
theorem je {f:Nat→Option Vl} (hs:∀ a,a∈ρ''→a∈ρ') (hf:∀ r w y,VR G ρ' H (.ref r) w→f r=some y→VR G ρ'' H y w∧y.lim n=true):∀ (xs:List Vl) (ws:List V) (ys:List Vl),au G ρ' H xs ws→iV f xs=some ys→au G ρ'' H ys ws∧aV n ys=true
 | [],ws,ys,h,e=>by
  simp only [iV,Option.some.injEq] at e
  subst e
  simp only [au] at h ⊢
  exact ⟨h,by simp [aV]⟩
 | x::xs,ws,ys,h,e=>by
  simp only [iV] at e
  obtain ⟨y,e1,e2⟩:=Option.bind_eq_some_iff.mp e
  obtain ⟨zs,e3,rfl⟩:=Option.map_eq_some_iff.mp e2
  simp only [au] at h ⊢
  obtain ⟨w,r,rfl,h1,h2⟩:=h
  obtain ⟨i1,i2⟩:=Wu hs hf x w y h1 e1
  obtain ⟨j1,j2⟩:=je hs hf xs r zs h2 e3
  exact ⟨⟨w,r,rfl,i1,j1⟩,by simp only [aV,i2,j2,Bool.and_self]⟩
end
theorem RG {f:Nat→Option Vl} (hs:∀ a,a∈ρ''→a∈ρ') (hf:∀ r w y,VR G ρ' H (.ref r) w→f r=some y→VR G ρ'' H y w∧y.lim n=true) {o o':Ob} {a:Addr} (h:OR G ρ' H a o) (e:o.jW f=some o'):OR G ρ'' H a o'∧o'.lim n=true:=by
 cases o with
 | lst xs=>
  obtain ⟨ys,e1,rfl⟩:=Option.map_eq_some_iff.mp (show (iV f xs).map _=some o' from e)
  obtain ⟨vs,h1,h2⟩:=h
  obtain ⟨i1,i2⟩:=je hs hf xs vs ys h2 e1
  exact ⟨⟨vs,h1,i1⟩,i2⟩
 | dct ks xs=>
  obtain ⟨ys,e1,rfl⟩:=Option.map_eq_some_iff.mp (show (iV f xs).map _=some o' from e)
  obtain ⟨vs,h1,hk,h2⟩:=h
  obtain ⟨i1,i2⟩:=je hs hf xs _ ys h2 e1
  exact ⟨⟨vs,h1,hk,i1⟩,i2⟩
 | ins c ns xs=>
  obtain ⟨ys,e1,rfl⟩:=Option.map_eq_some_iff.mp (show (iV f xs).map _=some o' from e)
  obtain ⟨dx,vs,h1,hk,h2⟩:=h
  obtain ⟨i1,i2⟩:=je hs hf xs _ ys h2 e1
  exact ⟨⟨dx,vs,h1,hk,i1⟩,i2⟩
 | Ac ks xs=>
  obtain ⟨ys,e1,rfl⟩:=Option.map_eq_some_iff.mp (show (iV f xs).map _=some o' from e)
  obtain ⟨vs,od,h1,hk,h2⟩:=h
  obtain ⟨i1,i2⟩:=je hs hf xs _ ys h2 e1
  exact ⟨⟨vs,od,h1,hk,i1⟩,i2⟩
theorem Wh (s:bf G ρ' H T) (hp:ρ'.take n=ρ''.take n) (hs:∀ a,a∈ρ''→a∈ρ') (hn:n≤ρ''.length) (h0:∀ r a,ρ'[r]? =some a→n≤r→r≠r0→a∉ρ''):∀ (k r:Nat) (w:V) (y:Vl),VR G ρ' H (.ref r) w→fI n r0 T k r=some y→VR G ρ'' H y w∧y.lim n=true
 | 0,r,w,y,h,e=>by
  unfold fI at e
  split at e
  ·rename_i hr
   cases e
   simp only [VR] at h ⊢
   obtain ⟨a,rfl,ha⟩:=h
   refine ⟨⟨a,rfl,?_⟩,by simp [Vl.lim,hr]⟩
   rw [← List.getElem?_take_of_lt (l:=ρ'') hr,← hp,List.getElem?_take_of_lt hr]
   exact ha
  ·cases e
 | k+1,r,w,y,h,e=>by
  unfold fI at e
  split at e
  ·rename_i hr
   cases e
   simp only [VR] at h ⊢
   obtain ⟨a,rfl,ha⟩:=h
   refine ⟨⟨a,rfl,?_⟩,by simp [Vl.lim,hr]⟩
   rw [← List.getElem?_take_of_lt (l:=ρ'') hr,← hp,List.getElem?_take_of_lt hr]
   exact ha
  ·rename_i hr
   split at e
   ·cases e
   ·rename_i hr0
    split at e
    ·rename_i o eo
     obtain ⟨o',e1,rfl⟩:=Option.map_eq_some_iff.mp e
     obtain ⟨a,rfl,ha,ho⟩:=s.ref h eo
     obtain ⟨i1,i2⟩:=RG hs (Wh s hp hs hn h0 k) ho e1
     have na:=h0 r a ha (by omega) hr0
     refine ⟨i1.inl na,?_⟩
     cases o'<;>exact i2
    ·cases e
-- from more references to fewer,for values that know only old ones
mutual
theorem VR.sub (hp:ρ'.take n=ρ''.take n) (hs:∀ a,a∈ρ''→a∈ρ'):∀ (x:Vl) (v:V),VR G ρ' H x v→x.lim n=true→VR G ρ'' H x v
 | .non,_,h,_ | .bl _,_,h,_ | .int _,_,h,_ | .str _,_,h,_=>by simpa only [VR] using h
 | .tup xs,v,h,l=>by
  simp only [VR] at h ⊢
  simp only [Vl.lim] at l
  obtain ⟨a,vs,e,h1,h2⟩:=h
  exact ⟨a,vs,e,h1.imp (fun q=>⟨q.1,fun z=>q.2 (hs a z)⟩) id,au.sub hp hs xs vs h2 l⟩
 | .lst xs,v,h,l=>by
  simp only [VR] at h ⊢
  simp only [Vl.lim] at l
  obtain ⟨a,vs,e,h1,h2⟩:=h
  exact ⟨a,vs,e,⟨h1.1,fun z=>h1.2 (hs a z)⟩,au.sub hp hs xs vs h2 l⟩
 | .dct ks xs,v,h,l=>by
  simp only [VR] at h ⊢
  simp only [Vl.lim] at l
  obtain ⟨a,vs,e,h1,hn,h2,h3⟩:=h
  exact ⟨a,vs,e,h1,fun z=>hn (hs a z),h2,au.sub hp hs xs _ h3 l⟩
 | .obj c ns xs,v,h,l=>by
  simp only [VR] at h ⊢
  simp only [Vl.lim] at l
  obtain ⟨a,dx,vs,e,h1,hn,h2,h3⟩:=h
  exact ⟨a,dx,vs,e,h1,fun z=>hn (hs a z),h2,au.sub hp hs xs _ h3 l⟩
 | .err c ns xs,v,h,l=>by
  simp only [VR] at h ⊢
  simp only [Vl.lim] at l
  obtain ⟨a,d,e,hg,q⟩:=h
  exact ⟨a,d,e,hg,q.imp id fun ⟨dd,fs,e1,h1,n,h2,h3⟩=>⟨dd,fs,e1,h1,fun z=>n (hs dd z),h2,au.sub hp hs xs _ h3 l⟩⟩
 | .ref r,v,h,l=>by
  simp only [VR] at h ⊢
  simp only [Vl.lim,decide_eq_true_eq] at l
  obtain ⟨a,e,h1⟩:=h
  exact ⟨a,e,by rw [← List.getElem?_take_of_lt (l:=ρ'') l,← hp,List.getElem?_take_of_lt l];exact h1⟩
theorem au.sub (hp:ρ'.take n=ρ''.take n) (hs:∀ a,a∈ρ''→a∈ρ'):∀ (xs:List Vl) (vs:List V),au G ρ' H xs vs→aV n xs=true→au G ρ'' H xs vs
 | [],_,h,_=>by simpa only [au] using h
 | x::xs,vs,h,l=>by
  simp only [au] at h ⊢
  simp only [aV,Bool.and_eq_true] at l
  obtain ⟨v,r,e,h1,h2⟩:=h
  exact ⟨v,r,e,VR.sub hp hs x v h1 l.1,au.sub hp hs xs r h2 l.2⟩
end
theorem OR.sub (hp:ρ'.take n=ρ''.take n) (hs:∀ a,a∈ρ''→a∈ρ') {a:Addr} {o:Ob} (h:OR G ρ' H a o) (l:o.lim n=true):OR G ρ'' H a o:=by
 cases o with
 | lst xs=>obtain ⟨vs,h1,h2⟩:=h;exact ⟨vs,h1,au.sub hp hs _ _ h2 l⟩
 | dct ks xs=>obtain ⟨vs,h1,h2,h3⟩:=h;exact ⟨vs,h1,h2,au.sub hp hs _ _ h3 l⟩
 | ins c ns xs=>obtain ⟨dx,vs,h1,h2,h3⟩:=h;exact ⟨dx,vs,h1,h2,au.sub hp hs _ _ h3 l⟩
 | Ac ks xs=>obtain ⟨vs,od,h1,h2,h3⟩:=h;exact ⟨vs,od,h1,h2,au.sub hp hs _ _ h3 l⟩
end
end Oz
namespace Oz
open PySem L2 PyProof.Rows
section
variable {G:bB} {k n:Nat} {X:Cx} {M:aF} {W:WX} {f:Addr} {fd:FuncData} {ps ks:List Str} {q c m x:Str} {a b e:Expr} {es:List Expr} {ca cb:E} {cU kes:Es} {p pos cH ajP:Pos} {dxs:List Vl} {dvs:List V} {mv:List Value} {kws:List Keyword} {nm:Option Str}
def Es.cat:Es→Es→Es
 | .nil,b=>b
 | .cons e a,b=>.cons e (a.cat b)
theorem Wf:∀ (a b:Es) (η:Sg) (S:Hs),evs M (a.cat b) η S=(evs M a η S).bind fun xs S1=>(evs M b η S1).bind fun ys S2=>.ok (xs++ys) S2
 | .nil,b,η,S=>by
  simp only [Es.cat,evs,Res.bind,List.nil_append]
  cases evs M b η S<;>rfl
 | .cons e a,b,η,S=>by
  simp only [Es.cat,evs]
  cases ev M e η S with
  | ok x S1=>
   simp only [Res.bind]
   rw [Wf a b η S1]
   cases evs M a η S1 with
   | ok xs S2=>simp only [Res.bind];cases evs M b η S2<;>rfl
   | exc x S2=>rfl
   | bad=>rfl
  | exc x S1=>rfl
  | bad=>rfl
theorem _root_.L2.PK.imp {X:Cx} {kws:List Keyword} {t t':TA} (h:PK X kws t) (k:∀ σ H Q,t' σ H Q→t σ H Q):PK X kws t':=⟨fun pos pins s σ H Q I q=>h.run pos pins s σ H Q I (k σ H Q q)⟩
theorem W8 {C:Addr} {sp:Sp} {pins:List (Addr × Obj)} {σ:L2.St} {H:Hp} {s:Shared} {Q:VK} {us ws:List Value} {vs zs:List V} (mk:Mk X.K C f) (F:qu X.prog X.w X.K X.mg X.base k f fd ps sp) (hr:Room (k+1) X.A) (hg:X.A.guards=some []) (hb:KBn X.K fd ps (n+1) ks (fun us ws=>us++ws++mv) (fun vs zs=>vs++zs++dvs)) (tk:Takes X W)
  (I:Inv X pins σ H s) (r:Vals vs us) (rz:Vals zs ws) (l1:vs.length=n) (l2:zs.length=ks.length)
  (h:∀ x dx,H x=none→H dx=none→dx≠x→sp (.ref x::(vs++zs++dvs)) (upd (upd H dx (.own x)) x (.ins C dx [])) (fun v H2=>v=.non∧Q (.ref x) H2) (fun c d H'=>W c d σ H')) :
  wpAny (model X.prog X.w) X.A (call (.ref C) us (ks.zip ws)) (EP X pins σ Q) X.xe s:=by
 have q0:=h (s.heap.objs.size+1) s.heap.objs.size (I.hok.fresh (Nat.le_succ _)) (I.hok.fresh (Nat.le_refl _)) (Nat.ne_of_lt (Nat.lt_succ_self _))
 have J:=Inv.made (C:=C) I
 have r1:Vals (V.ref (s.heap.objs.size+1)::vs) (Value.ref (s.heap.objs.size+1)::us):=.cons rfl r
 have rr:=hb.rel r1 rz
 have n1:(Value.ref (s.heap.objs.size+1)::us).length=n+1:=by rw [List.length_cons,← r.length,l1]
 refine wpAny_call (make_map (f:=f) I.kIn mk.makes mk.init (beq_iff_eq.mp mk.fn) (codeAny_mono (F.run _ X.stack _ _ ⟨Value.ref (s.heap.objs.size+1)::us,ks.zip ws⟩ _ _ _ _ (hr.make C us (ks.zip ws)) (BJ hg)
  (J.env0.make C us (ks.zip ws)) (hb.to _ (Value.ref (s.heap.objs.size+1)::us) ws J.kIn n1 (rz.length.symm.trans l2)) rr q0) ?_))
 intro r' s' hq
 match r',hq with
 | .error e,hq=>exact raised (σ:=σ) tk J hq
 | .ok (.ret u),hq=>
  obtain ⟨v,H',J3,rv,ev,q3⟩:=J.after hq
  subst ev
  exact ⟨rv,V.ref (s.heap.objs.size+1),H',J3,rfl,q3⟩
 | .ok .next,hq=>exact hq.elim
 | .ok .brk,hq=>exact hq.elim
 | .ok .cont,hq=>exact hq.elim
theorem ady {ρ ρ0 ρ2:List Addr} {H H0 Hn H2:Hp} {S S0 T:Hs} {σ:L2.St} {Q:VK} {y:Addr} (s0:bf G ρ0 H0 S0) (st0:Step ρ0 H0 ρ H) (s:bf G ρ H S) (hy:H y=none) (keep:∀ a o,H a=some o→Hn a=some o)
  (h:PR G W σ ρ H (ahF S.length T) (Ci G H0 Q)) (st:Step (ρ++[y]) Hn ρ2 H2) (s2:bf G ρ2 H2 T):Q (.ref y) H2:=by
 obtain ⟨τ,rfl⟩:=st.pre
 have yg:=s.len
 have yρ:y∉ρ:=s.free hy
 unfold ahF at h
 split at h
 ·rename_i hl
  split at h
  ·rename_i o eo
   split at h
   ·rename_i o' e1
    have all:=List.all_eq_true.mp hl
    have hT:S.length≤T.length:=by rw [← yg,← s2.len,List.length_append,List.length_append];omega
    have lt:(T.take S.length).length=S.length:=by rw [List.length_take];omega
    have eT:T.take S.length++T.drop S.length=T:=List.take_append_drop _ _
    have eρ:ρ++[y]++τ=ρ++([y]++τ):=List.append_assoc ..
    rw [eρ] at s2
    have sc:bf G ρ H2 (T.take S.length):=bf.cut (τ:=[y]++τ) (T:=T.drop S.length) (by rw [eT];exact s2) (by rw [lt];exact yg) fun r o e=>by rw [lt];exact all o (List.mem_of_getElem? e)
    have Uo:Step ρ H ρ H2:=⟨List.prefix_refl _,fun a o e na=>st.keep a o (keep a o e) (fun z=>(List.mem_append.mp z).elim na fun z=>by rw [List.mem_singleton.mp z,hy] at e;cases e),fun a ha=>.inl ha,fun a od u e=>st.fz a od u (keep a _ e)⟩
    have ha:(ρ++([y]++τ))[S.length]? =some y:=by rw [List.getElem?_append_right (by omega),yg,Nat.sub_self];rfl
    have ho:=s2.at_ S.length o y eo ha
    have aτ:y∈ρ++([y]++τ):=List.mem_of_getElem? ha
    have CJ:∀ b,b∈ρ++[y]→b∈ρ++([y]++τ):=fun b hb=>(List.mem_append.mp hb).elim (fun z=>List.mem_append_left _ z) fun z=>by rw [List.mem_singleton.mp z];exact aτ
    have zG:(ρ++([y]++τ)).take S.length=(ρ++[y]).take S.length:=by rw [List.take_append_of_le_length (by omega),List.take_append_of_le_length (by omega)]
    obtain ⟨i1,i2⟩:=RG (ρ'':=ρ++[y]) (n:=S.length) CJ (Wh (r0:=S.length) s2 zG CJ (by simp;omega) (fun r' b hb hr' Lh z=>by
     rcases List.mem_append.mp z with z | z
     ·obtain ⟨i,hi⟩:=List.getElem?_of_mem z
      have R9:(ρ++([y]++τ))[i]? =some b:=by rw [List.getElem?_append_left (aJ hi)];exact hi
      have:=(List.getElem?_inj (aJ R9) s2.nd).mp (R9.trans hb.symm)
      have:=aJ hi
      omega
     ·rw [List.mem_singleton.mp z] at hb
      exact Lh ((List.getElem?_inj (aJ hb) s2.nd).mp (hb.trans ha.symm))) Ar) ho e1
    have q:=h ρ H2 Uo sc
    refine q y (none_of s0 s st0 hy) yρ (OR.less (τ:=[y]) i1 (by rw [yg];exact i2)) ⟨by rw [List.length_append,List.length_append,lt,yg];rfl,?_,fun r' u b hr' hb=> ?_⟩
    ·rw [List.nodup_append]
     exact ⟨s.nd,by simp,fun x hx z hz=>by rw [List.mem_singleton.mp hz];exact fun z=>yρ (z ▸ hx)⟩
    ·by_cases h1:r'<S.length
     ·rw [List.getElem?_append_left (by omega)] at hr'
      rw [List.getElem?_append_left (by omega)] at hb
      have Ry:T[r']? =some u:=by rw [List.getElem?_take_of_lt h1] at hr';exact hr'
      have ZJ:(ρ++([y]++τ))[r']? =some b:=by rw [List.getElem?_append_left (by omega)];exact hb
      exact OR.sub zG CJ (s2.at_ r' u b Ry ZJ) (all u (List.mem_of_getElem? hr'))
     ·have h2:r'=S.length:=by
       have:=aJ hr'
       rw [List.length_append,lt] at this
       simp at this
       omega
      subst h2
      have e3:u=o':=by
       rw [List.getElem?_append_right (by omega),lt] at hr'
       simpa using hr'.symm
      have e4:b=y:=by
       rw [List.getElem?_append_right (by omega),yg] at hb
       simpa using hb.symm
      subst e3 e4
      exact i1
   ·exact h.elim
  ·exact h.elim
 ·exact h.elim
theorem acN {ρ ρ0:List Addr} {H H0:Hp} {S S0:Hs} {σ:L2.St} {Q:VK} {r:Res Rv} {y dx:Addr} (s0:bf G ρ0 H0 S0) (st0:Step ρ0 H0 ρ H) (s:bf G ρ H S) (hy:H y=none) (Zk:H dx=none) (ne:dx≠y)
  (h:PR G W σ ρ H (Cq S r) (Ci G H0 Q)):PR G (fun cls d _ H'=>W cls d σ H') [] (ρ++[y]) (upd (upd H dx (.own y)) y (.ins (G.cl c) dx [])) r (okR G (upd (upd H dx (.own y)) y (.ins (G.cl c) dx [])) fun v H2=>v=.non∧Q (.ref y) H2):=by
 generalize hHn:upd (upd H dx (.own y)) y (.ins (G.cl c) dx [])=Hn
 have keep:∀ a o,H a=some o→Hn a=some o:=fun a o e=>by
  rw [← hHn,upd_ne (fun z=>by subst z;rw [hy] at e;cases e),upd_ne (fun z=>by subst z;rw [Zk] at e;cases e)]
  exact e
 have yρ:y∉ρ:=s.free hy
 have cutS:∀ {ρ2:List Addr} {H2:Hp},Step (ρ++[y]) Hn ρ2 H2→Step ρ H ρ H2:=fun {ρ2 H2} st=>⟨List.prefix_refl _,fun a o e na=>st.keep a o (keep a o e) (fun z=>(List.mem_append.mp z).elim na fun z=>(by rw [List.mem_singleton.mp z,hy] at e;cases e)),fun a ha=>Or.inl ha,fun a od u e=>st.fz a od u (keep a _ e)⟩
 cases r with
 | bad=>exact h
 | exc x' T=>
  simp only [Cq] at h
  split at h
  ·rename_i hc
   refine fun ρ2 H2 st s2=> ?_
   obtain ⟨τ,rfl⟩:=st.pre
   have lt:(T.take S.length).length=S.length:=by rw [List.length_take];omega
   have eT:T.take S.length++T.drop S.length=T:=List.take_append_drop _ _
   have all:=List.all_eq_true.mp hc.2.1
   have sc:bf G ρ H2 (T.take S.length):=bf.cut (τ:=[y]++τ) (T:=T.drop S.length) (by rw [eT,← List.append_assoc];exact s2) (by rw [lt];exact s.len) fun r o e=>by rw [lt];exact all o (List.mem_of_getElem? e)
   have q:=h ρ H2 (cutS st) sc
   have hx:=hc.2.2
   unfold XW at q ⊢
   unfold Xc.lim at hx
   split at q
   ·exact q
   ·rename_i ns vs e
    exact fun d fs h1 h2 h3 h4=>q d fs h1 (fun z=>h2 (List.mem_append_left _ (List.mem_append_left _ z))) h3 (au.less (τ:=[y]++τ) _ _ (by rw [← List.append_assoc];exact h4) (by rw [s.len];have z:=hx;rw [e] at z;exact z))
  ·exact h.elim
 | ok rv T=>
  cases rv with
  | frs o=>exact h.elim
  | val v=>
   cases v with
   | non=>
    simp only [Cq] at h
    split at h
    ·rename_i o eo
     split at h
     ·rename_i hc
      refine fun ρ2 H2 st s2=> ?_
      have e2:ρ2=ρ++[y]:=o9 st.pre (by rw [s2.len,hc.1,List.length_append,s.len];rfl)
      subst e2
      have hT:T≠[]:=fun z=>by rw [z] at eo;cases eo
      have eT:T.dropLast++[o]=T:=by
       rw [List.getLast?_eq_getLast hT] at eo
       rw [← Option.some.inj eo]
       exact List.dropLast_concat_getLast hT
      have ld:T.dropLast.length=S.length:=by rw [List.length_dropLast,hc.1];rfl
      have all:=List.all_eq_true.mp hc.2
      have s2':bf G (ρ++[y]) H2 (T.dropLast++[o]):=by rw [eT];exact s2
      have sc:bf G ρ H2 T.dropLast:=bf.cut (τ:=[y]) (T:=[o]) s2' (by rw [ld];exact s.len) fun r u e=>by
       rw [ld];exact all u (by rw [← eT];exact List.mem_append_left _ (List.mem_of_getElem? e))
      have q:=h ρ H2 (cutS st) sc
      have lo:o.lim ρ.length=true:=by rw [s.len];exact all o (by rw [← eT];simp)
      have hr:(ρ++[y])[T.dropLast.length]? =some y:=by rw [ld,← s.len];simp
      intro v hv
      simp only [VR] at hv
      exact ⟨hv,q y (none_of s0 s st0 hy) yρ (OR.less (s2'.at_ T.dropLast.length o y (by simp) hr) lo) s2'⟩
     ·refine fun ρ2 H2 st s2 v hv=> ?_
      simp only [VR] at hv
      exact ⟨hv,ady s0 st0 s hy keep h st s2⟩
    ·exact h.elim
   | _=>exact h.elim
def tNw (G:bB) (M:aF) (c:Str) (W:WX) (n m:Nat) (cU kes:Es) (dxs:List Vl):TE:=fun σ H Q=>∃ ρ η S,bf G ρ H S∧ER G ρ H η σ∧PR G W σ ρ H (evs M cU η S) fun ρ1 H1 xs S1=>xs.length=n∧PR G W σ ρ1 H1 (evs M kes η S1) fun ρ2 H2 ys S2=>ys.length=m∧
 PR G W σ ρ2 H2 (Cq S2 (M.cal (dot c "__init__") (.ref S2.length::(xs++ys++dxs)) (S2++[.ins c [] []]))) (Ci G H Q)
theorem ZV {σ:L2.St} {H:Hp} {Q:VK} (hn:cU.len=n) (hk:kes.len=ks.length) (h:tF G M W (.new c ((cU.cat kes).app dxs)) σ H Q):tNw G M c W n ks.length cU kes dxs σ H Q:=by
 obtain ⟨ρ,η,S,s0,r,h⟩:=h
 simp only [d9] at h
 rw [qC,Wf] at h
 refine ⟨ρ,η,S,s0,r,?_⟩
 cases e1:evs M cU η S with
 | ok xs S1=>
  rw [e1] at h
  simp only [Res.bind] at h
  refine fun ρ1 H1 st s=>⟨by rw [mJ _ _ _ _ _ e1];exact hn,?_⟩
  have h:=PR.step h st
  cases e2:evs M kes η S1 with
  | ok ys S2=>
   rw [e2] at h
   exact fun ρ2 H2 st2 s2=>⟨by rw [mJ _ _ _ _ _ e2];exact hk,PR.step h st2⟩
  | exc x S2=>rw [e2] at h;exact h
  | bad=>rw [e2] at h;exact h
 | exc x S1=>rw [e1] at h;exact h
 | bad=>rw [e1] at h;exact h
theorem Ys {ρ:List Addr} {H:Hp} {S:Hs} {y dx:Addr} (s:bf G ρ H S) (hy:H y=none) (Zk:H dx=none) (ne:dx≠y):Step ρ H (ρ++[y]) (upd (upd H dx (.own y)) y (.ins (G.cl c) dx []))∧bf G (ρ++[y]) (upd (upd H dx (.own y)) y (.ins (G.cl c) dx [])) (S++[.ins c [] []]):=by
 have sm:Same H (upd H dx (.own y)):=fK Zk
 have hy2:(upd H dx (.own y)) y=none:=by rw [upd_ne (Ne.symm ne)];exact hy
 have s1:=s.same sm
 have bU:Step ρ H ρ (upd H dx (.own y)):=bu sm
 have s2:=s1.new (u:=.ins (G.cl c) dx []) (o:=.ins c [] []) hy2 ⟨dx,[],upd_same,rfl,au.nil⟩
 exact ⟨bU.trans ((bu (fK hy2)).one hy2),s2⟩
theorem S9 {ρ ρ0:List Addr} {H H0:Hp} {S S0:Hs} {σ:L2.St} {Q:VK} {xs:List Vl} {vs:List V} {y dx:Addr} (s0:bf G ρ0 H0 S0) (st0:Step ρ0 H0 ρ H) (s:bf G ρ H S) (hy:H y=none) (Zk:H dx=none) (ne:dx≠y) (hv:au G ρ H xs vs) (hl:xs.length+1=n)
  (h:PR G W σ ρ H (Cq S (M.cal (dot c "__init__") (.ref S.length::xs) (S++[.ins c [] []]))) (Ci G H0 Q)):spI G M n (dot c "__init__") (.ref y::vs) (upd (upd H dx (.own y)) y (.ins (G.cl c) dx [])) (fun v H2=>v=.non∧Q (.ref y) H2) (fun c d H'=>W c d σ H'):=by
 obtain ⟨st,sn⟩:=Ys (c:=c) s hy Zk ne
 refine ⟨by rw [List.length_cons,← hv.length];exact hl,ρ++[y],S++[.ins c [] []],.ref S.length::xs,sn,au.cons ?_ (hv.step st),acN s0 st0 s hy Zk ne h⟩
 simp only [VR]
 exact ⟨y,rfl,by rw [← s.len];simp⟩
theorem agr [bT G X] (g:Good G (k+1) X) (F:qu X.prog X.w X.K X.mg X.base k f fd ps (spI G M (n+1+dxs.length) (dot c "__init__"))) (mk:Mk X.K (G.cl c) f) (hg:Gl X x) (hm:X.mg x=some (.ref (G.cl c))) (hb:KBn X.K fd ps (n+1) [] (fun us ws=>us++ws++mv) (fun vs zs=>vs++zs++dvs)) (hc:Bg G dxs dvs) (tk:Takes X W)
  (ha:PA X (e::es) (tA G M W cU)) (hn:cU.len=n) (sX:(x==("__debug__":Str))=false:=by decide) (he:starEach (e::es) X.env=(false,eval e X.env)::starEach es X.env:=by rfl) (jt:(backTo pos (starEach es X.env)).any (·.1)=false:=by rfl) :
  PE X (.Call (.Name x p) (e::es) [] pos) (tF G M W (.new c (cU.app dxs))):=by
 refine ⟨fun pins s σ H Q I h0=> ?_⟩
 have agi:cU.cat .nil=cU:=by
  have:∀ c:Es,c.cat .nil=c:=fun c=>by
   induction c using Es.rec (motive_1:=fun _=>True) (motive_2:=fun _=>True) (motive_3:=fun _=>True) (motive_5:=fun _=>True)<;>first | trivial | rfl | (simp only [Es.cat];rename_i ih;rw [ih])
  exact this cU
 obtain ⟨ρ,η,S,s0,r,h⟩:=ZV (ks:=[]) (kes:=.nil) hn rfl (by rw [agi];exact h0)
 refine wpAny_Call_Name_kw (ld_glob I hg hm ?_ sX)
 refine PySem.W.callWith_K (h₀:=X.base) I.ok.mod.kin mk.kp (thn (ha.run pos pins s σ H (fun vs H1=>∃ xs ρ1 S1,Step ρ H ρ1 H1∧bf G ρ1 H1 S1∧au G ρ1 H1 xs vs∧xs.length=n∧PR G W σ ρ1 H1 (evs M .nil η S1) fun ρ2 H2 ys S2=>ys.length=0∧
  PR G W σ ρ2 H2 (Cq S2 (M.cal (dot c "__init__") (.ref S2.length::(xs++ys++dxs)) (S2++[.ins c [] []]))) (Ci G H Q)) I ⟨ρ,η,S,s0,r,h.mono fun ρ1 H1 xs S1 bU s1 h1 vs hv=>⟨xs,ρ1,S1,bU,s1,hv,h1⟩⟩) fun us s1 ⟨vs,H1,I1,rv,xs,ρ1,S1,bU,sm1,hv,hl,hp⟩=>⟨I1.kIn,?_⟩) he jt
 simp only [evs] at hp
 obtain ⟨_,zG⟩:=hp.here sm1
 rw [List.append_nil] at zG
 refine W8 (ks:=[]) (ws:=[]) (zs:=[]) mk F g.rm g.N7 hb tk I1 rv .nil (by rw [← hv.length];exact hl) rfl fun y dx hy Zk ne=> ?_
 rw [List.append_nil]
 exact S9 s0 bU sm1 hy Zk ne (hv.append (hc _ _)) (by simp only [List.length_append];omega) zG
end
structure zQ (K:PySem.W.Frag) (C:Addr):Prop where
 cls:Cls K C
 ha:PySem.W.findIn K (.ref C) "__class__"=some (some (.builtin "object.__class__"))
 hn:PySem.W.specialIn K (.builtin "object.__class__") "__get__"=some (some (.builtin "getset_descriptor.__get__"))
 htk:PySem.W.takesIn K (.builtin "object.__class__")=some true
 hm:PySem.W.mroIn K C (.type "object")=some true
def tyT (G:bB) (S:Hs):Vl→Value
 | .non=>.type "NoneType" | .bl _=>.type "bool" | .int _=>.type "int" | .str _=>.type "str"
 | .tup _=>.type "tuple" | .lst _=>.type "list" | .dct _ _=>.type "dict" | .obj c _ _=>.ref (G.cl c) | .err _ _ _=>.none
 | .ref r=>match S[r]? with
  | some (.lst _)=>.type "list"
  | some (.dct _ _)=>.type "dict"
  | some (.ins c _ _)=>.ref (G.cl c)
  | some (.Ac _ _)=>.type "dict"
  | none=>.none
section
variable {G:bB} {k n:Nat} {X:Cx} {M:aF} {W:WX} {f:Addr} {c:Str} {a b e:Expr} {es:List Expr} {ca cb:E} {cU kes:Es} {p pos:Pos}
theorem afl {ρ:List Addr} {H:Hp} {S:Hs} {x:Vl} {v:V} (he:G.er=none) (hC:∀ c,zQ G.K (G.cl c)) (s:bf G ρ H S) (h:VR G ρ H x v):TyX G.K H v (tyT G S x):=by
 have ins:∀ {a C dx:Addr} {fs:List (Str × V)},(∃ c,C=G.cl c)→H a=some (.ins C dx fs)→TyX G.K H (.ref a) (.ref C):=fun ⟨c,e⟩ h=>by
  subst e
  exact .base (.ins h (hC c).cls (hC c).ha (hC c).hn (hC c).htk (hC c).hm)
 cases x with
 | non=>simp only [VR] at h;subst h;exact .base .non
 | bl d=>simp only [VR] at h;subst h;exact .base (.bl d)
 | int d=>simp only [VR] at h;subst h;exact .base (.int d)
 | str d=>simp only [VR] at h;subst h;exact .base (.str d)
 | tup xs=>
  simp only [VR] at h
  obtain ⟨p,vs,rfl,h1,_⟩:=h
  rcases h1 with ⟨h1 | ⟨o,h1⟩,_⟩ | (h1 | ⟨o,h1⟩) | ⟨o,its,n,h1,h2,_⟩
  ·exact .base (.tup h1)
  ·exact .fTuple h1
  ·cases h1
  ·cases h1
  ·exact .kTuple h1 h2
 | lst xs=>
  simp only [VR] at h
  obtain ⟨p,vs,rfl,⟨h1 | ⟨o,h1⟩,_⟩,_⟩:=h
  ·exact .base (.lst h1)
  ·exact .base (.frz h1)
 | dct ks xs=>
  simp only [VR] at h
  obtain ⟨p,kvs,rfl,h1,_⟩:=h
  rcases h1 with h1 | ⟨o,h1⟩
  ·exact .base (.dK h1)
  ·exact .fDict h1
 | obj c ns xs=>
  simp only [VR] at h
  obtain ⟨p,dx,fs,rfl,h1,_⟩:=h
  exact ins ⟨c,rfl⟩ h1
 | err c ns xs=>
  simp only [VR] at h
  obtain ⟨p,d,_,h1,_⟩:=h
  rw [he] at h1
  cases h1
 | ref r=>
  have h0:=h
  simp only [VR] at h
  obtain ⟨p,rfl,hr⟩:=h
  have hl:r<S.length:=by rw [← s.len];exact aJ hr
  have eo:S[r]? =some S[r]:=List.getElem?_eq_getElem hl
  obtain ⟨p',e,_,ho⟩:=s.ref h0 eo
  cases e
  unfold tyT
  simp only [eo]
  generalize S[r]=o at ho
  cases o with
  | lst xs=>obtain ⟨vs,h1,_⟩:=ho;exact .base (.lst h1)
  | dct ks xs=>obtain ⟨vs,h1,_⟩:=ho;exact .base (.dK h1)
  | ins c ns xs=>obtain ⟨dx,vs,h1,_⟩:=ho;exact ins ⟨c,rfl⟩ h1
  | Ac ks xs=>obtain ⟨vs,od,h1,_⟩:=ho;exact .fDict h1
structure IsT (K:PySem.W.Frag) (u:Value) (d:Bool):Prop where
 non:PySem.W.kitOne K (.type "NoneType") u=some false
 bl:PySem.W.kitOne K (.type "bool") u=some false
 int:PySem.W.kitOne K (.type "int") u=some false
 str:PySem.W.kitOne K (.type "str") u=some false
 tup:PySem.W.kitOne K (.type "tuple") u=some false
 lst:PySem.W.kitOne K (.type "list") u=some false
 dct:PySem.W.kitOne K (.type "dict") u=some d
theorem ac0 {S:Hs} {x:Vl} {u:Value} (hx:∀ c ns xs,x≠.err c ns xs) (it:IsT G.K u true) (hi:∀ c,PySem.W.kitOne G.K (.ref (G.cl c)) u=some false) (hr:∀ r,x=.ref r→r<S.length):PySem.W.kitOne G.K (tyT G S x) u=some (aX S x).isSome:=by
 cases x with
 | non=>exact it.non
 | bl d=>exact it.bl
 | int d=>exact it.int
 | str d=>exact it.str
 | tup xs=>exact it.tup
 | lst xs=>exact it.lst
 | dct ks xs=>exact it.dct
 | obj c ns xs=>exact hi c
 | err c ns xs=>exact absurd rfl (hx c ns xs)
 | ref r=>
  obtain ⟨o,eo⟩:∃ o,S[r]? =some o:=⟨S[r]'(hr r rfl),List.getElem?_eq_getElem _⟩
  unfold tyT aX
  simp only [eo]
  cases o with
  | lst xs=>exact it.lst
  | dct ks xs=>exact it.dct
  | ins c ns xs=>exact hi c
  | Ac ks xs=>exact it.dct
theorem aeg {S:Hs} {x:Vl} {u:Value} (hx:∀ c ns xs,x≠.err c ns xs) (it:IsT G.K u false) (hr:∀ r,x=.ref r→r<S.length) (h:lJ S x=none):PySem.W.kitOne G.K (tyT G S x) u=some false:=by
 cases x with
 | non=>exact it.non
 | bl d=>exact it.bl
 | int d=>exact it.int
 | str d=>exact it.str
 | tup xs=>exact it.tup
 | lst xs=>exact it.lst
 | dct ks xs=>exact it.dct
 | obj c ns xs=>simp [lJ] at h
 | err c ns xs=>exact absurd rfl (hx c ns xs)
 | ref r=>
  obtain ⟨o,eo⟩:∃ o,S[r]? =some o:=⟨S[r]'(hr r rfl),List.getElem?_eq_getElem _⟩
  unfold lJ at h
  unfold tyT
  simp only [eo] at h ⊢
  cases o with
  | lst xs=>exact it.lst
  | dct ks xs=>exact it.dct
  | ins c ns xs=>simp at h
  | Ac ks xs=>exact it.dct
theorem aaE {ρ:List Addr} {H:Hp} {S:Hs} {x:Vl} {v:V} (s:bf G ρ H S) (h:VR G ρ H x v):∀ r,x=.ref r→r<S.length:=fun r e=>by
 subst e
 simp only [VR] at h
 obtain ⟨p,_,hr⟩:=h
 rw [← s.len];exact aJ hr
theorem Zw {ρ:List Addr} {H:Hp} {x:Vl} {v:V} (he:G.er=none) (h:VR G ρ H x v):∀ c ns xs,x≠.err c ns xs:=fun c ns xs e=>by
 subst e
 simp only [VR] at h
 obtain ⟨p,d,_,h1,_⟩:=h
 rw [he] at h1
 cases h1
theorem adV [bT G X] (g:Good G k X) (hC:∀ c,zQ G.K (G.cl c)) (it:IsT G.K (.type "dict") true) (hi:∀ c,PySem.W.kitOne G.K (.ref (G.cl c)) (.type "dict")=some false) (hg:Gl X "isinstance") (hm:X.mg "isinstance"=none) (ha:PE X a (tE G M W ca)) (hb:PE X b (L2.tC (.ty "dict")))
  (hs:starEach [a,b] X.env=(false,eval a X.env)::starEach [b] X.env:=by rfl) (CJ:starEach [b] X.env=(false,eval b X.env)::starEach [] X.env:=by rfl) (jt:(backTo pos (starEach [b] X.env)).any (·.1)=false:=by rfl) :
  PE X (.Call (.Name "isinstance" p) [a,b] [] pos) (tE G M W (.isD ca)):=(pe_callB call_isi hg hm (by decide+kernel) (pa_cons ha (pa_cons hb pa_nil CJ) hs) (by decide) (by decide) hs jt).imp fun σ H Q ⟨ρ,η,S,s,r,h⟩=>⟨ρ,η,S,s,r,by
 simp only [ev] at h
 refine (PR.bind h).mono fun ρ1 H1 x S1 bU s1 h1 v hv=> ?_
 refine ⟨v,.ty "dict",_,.type "dict",_,rfl,.ty "dict",by rw [g.K];exact afl (bT.er X) hC s1 hv,by rw [g.K];exact ac0 (Zw (bT.er X) hv) it hi (aaE s1 hv),h1.here s1 _ (by simp only [VR])⟩⟩
theorem M6 [bT G X] (g:Good G k X) (hC:∀ c,zQ G.K (G.cl c)) (it:IsT G.K (.ref (G.cl c)) false) (hi:PySem.W.kitOne G.K (.ref (G.cl c)) (.ref (G.cl c))=some true) (hg:Gl X "isinstance") (hm:X.mg "isinstance"=none) (ha:PE X a (tE G M W ca)) (hb:PE X b (L2.tC (.ref (G.cl c))))
  (hs:starEach [a,b] X.env=(false,eval a X.env)::starEach [b] X.env:=by rfl) (CJ:starEach [b] X.env=(false,eval b X.env)::starEach [] X.env:=by rfl) (jt:(backTo pos (starEach [b] X.env)).any (·.1)=false:=by rfl) :
  PE X (.Call (.Name "isinstance" p) [a,b] [] pos) (tE G M W (.isC c ca)):=(pe_callB call_isi hg hm (by decide+kernel) (pa_cons ha (pa_cons hb pa_nil CJ) hs) (by decide) (by decide) hs jt).imp fun σ H Q ⟨ρ,η,S,s,r,h⟩=>⟨ρ,η,S,s,r,by
 simp only [ev] at h
 refine (PR.bind h).mono fun ρ1 H1 x S1 bU s1 h1 v hv=> ?_
 split at h1
 ·rename_i d ns vs ei
  split at h1
  ·rename_i ed
   subst ed
   obtain ⟨a',dx,fs,rfl,h2,_⟩:=Mq s1 hv ei
   refine ⟨_,.ref (G.cl c),.ref (G.cl c),.ref (G.cl c),true,rfl,.own _,by rw [g.K];exact .base (.ins h2 (hC c).cls (hC c).ha (hC c).hn (hC c).htk (hC c).hm),by rw [g.K];exact hi,h1.here s1 _ (by simp only [VR])⟩
  ·exact h1.elim
 ·rename_i ei
  exact ⟨v,.ref (G.cl c),_,.ref (G.cl c),false,rfl,.own _,by rw [g.K];exact afl (bT.er X) hC s1 hv,by rw [g.K];exact aeg (Zw (bT.er X) hv) it (aaE s1 hv) ei,h1.here s1 _ (by simp only [VR])⟩⟩
end
end Oz
namespace Oz
open PySem L2 PyProof.Rows
section
variable {P:Program} {w:World} {A:Around} {E:Value→Shared→Prop} {I:Addr} {fp wr:List Addr} {GG:Array GenState→Array GenState→Prop} {n:Nat} {Pv:Nat→Value→Prop} {St:Nat→Shared→Prop}
abbrev amv (s:Shared) (its:Array Value) (m:Nat) (Q:List Value→Shared→Prop):Prop:=∀ (s':Shared) (l:Addr) (h':Heap),(∀ b o,s.heap.get? b=some o→s'.heap.get? b=some o)→s'.gens=s.gens→s'.os=s.os→(∀ b o,s'.heap.get? b=some o→h'.get? b=some o)→s'.heap.objs.size≤l→h'.get? l=some { cls:=.type "list",data:=.seq (its.toList.drop m).toArray }→Q (its.toList.take m++[.ref l]) { s' with heap:=h' }
end
section
variable {G:bB} {k:Nat} {X:Cx} {M:aF} {W:WX} {pos p:Pos} {e:Expr} {ce:E}
def ajV:List Nat→Wg
 | []=>.nil
 | i::is=>.cons (.nm i) (ajV is)
section
variable {G:bB} {k:Nat} {X:Cx} {M:aF} {W:WX} {pos:Pos}
def alK (G:bB) (M:aF) (W:WX):List Str→Es→List (TE × TE)
 | z::zs,.cons e es=>(L2.tC (.str z),tE G M W e)::alK G M W zs es
 | _,_=>[]
theorem aew {κ:Type} [DecidableEq κ] {kvs:List (κ × V)} {j:κ} {v:V} (h:j∉kvs.map (·.1)):putK kvs j v=kvs++[(j,v)]:=by
 unfold putK
 rw [if_neg]
 intro z
 obtain ⟨p,hp,e⟩:=List.any_eq_true.mp z
 exact h (List.mem_map.mpr ⟨p,hp,of_decide_eq_true e⟩)
theorem Lp:∀ (more kvs:List (Key × V)),(kvs.map (·.1)++more.map (·.1)).Nodup→mergeK kvs more=kvs++more
 | [],kvs,_=>by simp [mergeK]
 | p::more,kvs,h=>by
  have hp:p.1∉kvs.map (·.1):=fun z=>(List.nodup_append.mp h).2.2 p.1 z p.1 (by simp) rfl
  show mergeK (putK kvs p.1 p.2) more=_
  rw [aew hp,Lp more _ (by simpa using h)]
  simp
end
end
end Oz
namespace Oz
open PySem L2 PyProof.Rows
def lO (n:Nat) (T:Hs):Vl→Res Rv
 | .ref r=>if r<n then .ok (.val (.ref r)) (T.take n) else match T[r]? with
  | some o=>match o.jW (fI n r T Ar) with
   | some o'=>.ok (.frs o') (T.take n)
   | none=>.bad
  | none=>.bad
 | v=>match v.jW (fI n T.length T Ar) with
  | some v'=>.ok (.val v') (T.take n)
  | none=>.bad
def Dz (n:Nat) (r:Rv) (T:Hs):Res Rv:=if (T.take n).all (Ob.lim n)=true then (match r with
  | .val v=>lO n T v
  | .frs o=>lO n (T++[o]) (.ref T.length))
 else .ok r T
def fin2 (n:Nat) (r:Rv) (T:Hs):Res Rv:=match r with
 | .val (.tup [.ref a,.ref b])=>if n≤a∧n≤b∧a≠b∧(T.take n).all (Ob.lim n)=true then (match T[a]?,T[b]? with
   | some o,some u=>if o.lim n=true∧u.lim n=true then .ok (.val (.tup [.ref n,.ref (n+1)])) (T.take n++[o,u]) else .bad
   | _,_=>.bad) else .bad
 | r=>.ok r T
def adP (n:Nat) (x:Xc) (T:Hs):Res Rv:=if (T.take n).all (Ob.lim n)=true∧x.lim n=true then .exc x (T.take n) else .exc x T
structure jU where
 np:Nat
 nn:Nat
 body:Cs
 two:Bool:=false
noncomputable def gK (M:aF) (d:jU) (xs:List Vl) (S:Hs):Res Rv:=if xs.length=d.np then match exec M d.body (xs.map some++List.replicate (d.nn - xs.length) none) S with
 | .ret r T=>if d.two then fin2 S.length r T else Dz S.length r T
 | .nx _ T=>Dz S.length (.val .non) T
 | .exc x _ T=>adP S.length x T
 | _=>.bad
 else .bad
section
variable {G:bB} {ρ ρ':List Addr} {H H':Hp} {S T:Hs} {Q:VK}
theorem Mj {W:WX} {σ:L2.St} (s:bf G ρ H S) (st:Step ρ H ρ' H') (s':bf G ρ' H' T) (hl:(T.take S.length).all (Ob.lim S.length)=true) (v:Vl) (w:V) (hv:VR G ρ' H' v w)
  (h:PR G W σ ρ H (lO S.length T v) (okR G H Q)):Q w H':=by
 obtain ⟨τ,rfl⟩:=st.pre
 have yg:=s.len
 have all:=List.all_eq_true.mp hl
 have hT:S.length≤T.length:=by rw [← yg,← s'.len,List.length_append];omega
 have lt:(T.take S.length).length=S.length:=by rw [List.length_take];omega
 have eT:T.take S.length++T.drop S.length=T:=List.take_append_drop _ _
 have sc:bf G ρ H' (T.take S.length):=bf.cut (τ:=τ) (T:=T.drop S.length) (by rw [eT];exact s') (by rw [lt];exact yg) fun r o e=>by rw [lt];exact all o (List.mem_of_getElem? e)
 have Uo:Step ρ H ρ H':=⟨List.prefix_refl _,st.keep,fun a ha=>.inl ha,st.fz⟩
 -- a value that is no reference
 have val:∀ v',v.jW (fI S.length T.length T Ar)=some v'→lO S.length T v=.ok (.val v') (T.take S.length)→Q w H':=fun v' e1 e2=>by
  rw [e2] at h
  have q:=h ρ H' Uo sc
  refine q w (Wu (ρ'':=ρ) (n:=S.length) (fun a ha=>List.mem_append_left _ ha) (Wh s' (by rw [List.take_append_of_le_length (by omega)]) (fun a ha=>List.mem_append_left _ ha) (by omega) (fun r a ha hr _=> ?_) Ar) v w v' hv e1).1
  intro ha2
  obtain ⟨i,hi⟩:=List.getElem?_of_mem ha2
  have R9:(ρ++τ)[i]? =some a:=by rw [List.getElem?_append_left (aJ hi)];exact hi
  have:=(List.getElem?_inj (aJ R9) s'.nd).mp (R9.trans ha.symm)
  have:=aJ hi
  omega
 cases v with
 | ref r=>
  by_cases hr:r<S.length
  ·have e:lO S.length T (.ref r)=.ok (.val (.ref r)) (T.take S.length):=by
    show (if r<S.length then (.ok (.val (.ref r)) (T.take S.length):Res Rv) else _)=_
    rw [if_pos hr]
   rw [e] at h
   exact h ρ H' Uo sc w (VR.less _ _ hv (by simp [Vl.lim,yg,hr]))
  ·have e:lO S.length T (.ref r)=match T[r]? with
     | some o=>match o.jW (fI S.length r T Ar) with
      | some o'=>.ok (.frs o') (T.take S.length)
      | none=>.bad
     | none=>.bad:=by
    show (if r<S.length then (.ok (.val (.ref r)) (T.take S.length):Res Rv) else _)=_
    rw [if_neg hr]
   rw [e] at h
   split at h
   ·rename_i o eo
    split at h
    ·rename_i o' e1
     obtain ⟨a,rfl,ha,ho⟩:=s'.ref hv eo
     have aρ:a∉ρ:=fun z=>by
      obtain ⟨i,hi⟩:=List.getElem?_of_mem z
      have R9:(ρ++τ)[i]? =some a:=by rw [List.getElem?_append_left (aJ hi)];exact hi
      have:=(List.getElem?_inj (aJ R9) s'.nd).mp (R9.trans ha.symm)
      have:=aJ hi
      omega
     have aτ:a∈ρ++τ:=List.mem_of_getElem? ha
     have CJ:∀ b,b∈ρ++[a]→b∈ρ++τ:=fun b hb=>(List.mem_append.mp hb).elim (fun z=>List.mem_append_left _ z) fun z=>by rw [List.mem_singleton.mp z];exact aτ
     have zG:(ρ++τ).take S.length=(ρ++[a]).take S.length:=by rw [List.take_append_of_le_length (by omega),List.take_append_of_le_length (by omega)]
     obtain ⟨i1,i2⟩:=RG (ρ'':=ρ++[a]) (n:=S.length) CJ (Wh (r0:=r) s' zG CJ (by simp;omega) (fun r' b hb hr' Lh z=>by
      rcases List.mem_append.mp z with z | z
      ·obtain ⟨i,hi⟩:=List.getElem?_of_mem z
       have R9:(ρ++τ)[i]? =some b:=by rw [List.getElem?_append_left (aJ hi)];exact hi
       have:=(List.getElem?_inj (aJ R9) s'.nd).mp (R9.trans hb.symm)
       have:=aJ hi
       omega
      ·rw [List.mem_singleton.mp z] at hb
       exact Lh ((List.getElem?_inj (aJ hb) s'.nd).mp (hb.trans ha.symm))) Ar) ho e1
     have q:=h ρ H' Uo sc
     have hH:H a=none:=(st.new a aτ).elim (fun z=>(aρ z).elim) id
     refine q a hH aρ (OR.less (τ:=[a]) i1 (by rw [yg];exact i2)) ⟨by rw [List.length_append,List.length_append,lt,yg];rfl,?_,fun r' u b hr' hb=> ?_⟩
     ·rw [List.nodup_append]
      exact ⟨s.nd,by simp,fun x hx y hy=>by rw [List.mem_singleton.mp hy];exact fun z=>aρ (z ▸ hx)⟩
     ·by_cases h1:r'<S.length
      ·rw [List.getElem?_append_left (by omega)] at hr'
       rw [List.getElem?_append_left (by omega)] at hb
       have Ry:T[r']? =some u:=by rw [List.getElem?_take_of_lt h1] at hr';exact hr'
       have ZJ:(ρ++τ)[r']? =some b:=by rw [List.getElem?_append_left (by omega)];exact hb
       exact OR.sub zG CJ (s'.at_ r' u b Ry ZJ) (all u (List.mem_of_getElem? hr'))
      ·have h2:r'=S.length:=by
        have:=aJ hr'
        rw [List.length_append,lt] at this
        simp at this
        omega
       subst h2
       have e3:u=o':=by
        rw [List.getElem?_append_right (by omega),lt] at hr'
        simpa using hr'.symm
       have e4:b=a:=by
        rw [List.getElem?_append_right (by omega),yg] at hb
        simpa using hb.symm
       subst e3 e4
       exact i1
    ·exact h.elim
   ·exact h.elim
 | non=>exact val .non rfl rfl
 | bl b=>exact val (.bl b) rfl rfl
 | int b=>exact val (.int b) rfl rfl
 | str b=>exact val (.str b) rfl rfl
 | tup xs=>
  cases e:(Vl.tup xs).jW (fI S.length T.length T Ar) with
  | some v'=>exact val v' e (by unfold lO;simp only [e])
  | none=>rw [show lO S.length T (.tup xs)=.bad by unfold lO;simp only [e]] at h;exact h.elim
 | lst xs=>
  cases e:(Vl.lst xs).jW (fI S.length T.length T Ar) with
  | some v'=>exact val v' e (by unfold lO;simp only [e])
  | none=>rw [show lO S.length T (.lst xs)=.bad by unfold lO;simp only [e]] at h;exact h.elim
 | dct ks xs=>
  cases e:(Vl.dct ks xs).jW (fI S.length T.length T Ar) with
  | some v'=>exact val v' e (by unfold lO;simp only [e])
  | none=>rw [show lO S.length T (.dct ks xs)=.bad by unfold lO;simp only [e]] at h;exact h.elim
 | obj c ns xs=>
  cases e:(Vl.obj c ns xs).jW (fI S.length T.length T Ar) with
  | some v'=>exact val v' e (by unfold lO;simp only [e])
  | none=>rw [show lO S.length T (.obj c ns xs)=.bad by unfold lO;simp only [e]] at h;exact h.elim
 | err c ns xs=>
  cases e:(Vl.err c ns xs).jW (fI S.length T.length T Ar) with
  | some v'=>exact val v' e (by unfold lO;simp only [e])
  | none=>rw [show lO S.length T (.err c ns xs)=.bad by unfold lO;simp only [e]] at h;exact h.elim
theorem adf {W:WX} {σ:L2.St} {D:Ends} {r:Rv} (s:bf G ρ H S) (h:PR G W σ ρ H (fin2 S.length r T) (okR G H D.rt)):PQ G W ρ H D (.ret r T):=by
 unfold fin2 at h
 split at h
 ·rename_i a b
  split at h
  ·rename_i hc
   obtain ⟨ha,hb,hab,hl⟩:=hc
   split at h
   ·rename_i o u eo eu
    split at h
    ·rename_i hlo
     intro ρ' H' st s' w hw
     obtain ⟨τ,rfl⟩:=st.pre
     have yg:=s.len
     have all:=List.all_eq_true.mp hl
     have hT:S.length≤T.length:=by rw [← yg,← s'.len,List.length_append];omega
     have lt:(T.take S.length).length=S.length:=by rw [List.length_take];omega
     have lg:∀ {i:Nat} {c:Addr},ρ[i]? =some c→(ρ++τ)[i]? =some c:=fun hi=>by rw [List.getElem?_append_left (aJ hi)];exact hi
     have nin:∀ {i:Nat} {c:Addr},S.length≤i→(ρ++τ)[i]? =some c→c∉ρ:=fun {i c} hi hic z=>by
      obtain ⟨j,hj⟩:=List.getElem?_of_mem z
      have:=(List.getElem?_inj (aJ (lg hj)) s'.nd).mp ((lg hj).trans hic.symm)
      have:=aJ hj
      omega
     simp only [VR,au] at hw
     obtain ⟨p,vs,rfl,ht,v1,r1,rfl,⟨a',rfl,ha'⟩,v2,r2,rfl,⟨b',rfl,hb'⟩,rfl⟩:=hw
     have na:=nin ha ha'
     have nb:=nin hb hb'
     have nab:a'≠b':=fun z=>hab ((List.getElem?_inj (aJ ha') s'.nd).mp (by rw [ha',hb',z]))
     have CJ:∀ c,c∈ρ++[a',b']→c∈ρ++τ:=fun c hc=>by
      rcases List.mem_append.mp hc with z | z
      ·exact List.mem_append_left _ z
      ·rcases List.mem_cons.mp z with z | z
       ·rw [z];exact List.mem_of_getElem? ha'
       ·rw [List.mem_singleton.mp z];exact List.mem_of_getElem? hb'
     have zG:(ρ++τ).take S.length=(ρ++[a',b']).take S.length:=by rw [List.take_append_of_le_length (by omega),List.take_append_of_le_length (by omega)]
     have oa:=OR.sub (n:=S.length) zG CJ (s'.at_ a o a' eo ha') hlo.1
     have ob:=OR.sub (n:=S.length) zG CJ (s'.at_ b u b' eu hb') hlo.2
     have ak2:bf G (ρ++[a',b']) H' (T.take S.length++[o,u]):=by
      refine ⟨by rw [List.length_append,List.length_append,lt,yg];rfl,?_,fun r' y c hr' hc=> ?_⟩
      ·rw [List.nodup_append]
       refine ⟨s.nd,by simp [nab],fun x hx y hy=> ?_⟩
       rcases List.mem_cons.mp hy with z | z
       ·rw [z];exact fun q=>na (q ▸ hx)
       ·rw [List.mem_singleton.mp z];exact fun q=>nb (q ▸ hx)
      ·by_cases h1:r'<S.length
       ·rw [List.getElem?_append_left (by omega)] at hr'
        rw [List.getElem?_append_left (by omega)] at hc
        have Ry:T[r']? =some y:=by rw [List.getElem?_take_of_lt h1] at hr';exact hr'
        exact OR.sub zG CJ (s'.at_ r' y c Ry (lg hc)) (all y (List.mem_of_getElem? hr'))
       ·rw [List.getElem?_append_right (by omega),lt] at hr'
        rw [List.getElem?_append_right (by omega),yg] at hc
        rcases hk:r' - S.length with _ | _ | k
        ·rw [hk] at hr' hc
         cases hr';cases hc
         exact oa
        ·rw [hk] at hr' hc
         cases hr';cases hc
         exact ob
        ·rw [hk] at hr'
         simp at hr'
     have stp:Step ρ H (ρ++[a',b']) H':=⟨List.prefix_append _ _,st.keep,fun c hc=>st.new c (CJ c hc),st.fz⟩
     refine h _ H' stp ak2 (.ref p) ?_
     simp only [VR,au]
     refine ⟨p,_,rfl,ht.imp (fun q=>⟨q.1,fun z=>q.2 (CJ p z)⟩) id,_,_,rfl,⟨a',rfl,?_⟩,_,_,rfl,⟨b',rfl,?_⟩,rfl⟩
     ·rw [← yg,List.getElem?_append_right (by omega)];simp
     ·rw [← yg,List.getElem?_append_right (by omega)];simp
    ·exact h.elim
   ·exact h.elim
  ·exact h.elim
 ·exact fun ρ' H' st s'=>h ρ' H' st s'
theorem Ur {M:aF} {d:jU} {xs:List Vl} {E:XK} (s:bf G ρ H S) (hl:xs.length=d.np) (h:PR G (fun cls d _ H'=>E cls d H') [] ρ H (gK M d xs S) (okR G H Q)) :
  PQ G (fun cls d _ H'=>E cls d H') ρ H { nx:=fun _ H'=>Q .non H',rt:=Q } (exec M d.body (xs.map some++List.replicate (d.nn - xs.length) none) S):=by
 unfold gK at h
 rw [if_pos hl] at h
 have nT:∀ {ρ':List Addr} {H':Hp} {T:Hs},Step ρ H ρ' H'→bf G ρ' H' T→S.length≤T.length:=fun st s'=>by
  obtain ⟨τ,e⟩:=st.pre
  rw [← s.len,← s'.len,← e,List.length_append];omega
 cases eo:exec M d.body (xs.map some++List.replicate (d.nn - xs.length) none) S with
 | bad=>rw [eo] at h;exact h.elim
 | brk η T=>rw [eo] at h;exact h.elim
 | cnt η T=>rw [eo] at h;exact h.elim
 | nx η T=>
  rw [eo] at h
  simp only [Dz] at h
  refine fun ρ' H' σ' st s' _=> ?_
  split at h
  ·rename_i hc
   exact Mj s st s' hc .non .non (by simp only [VR]) h
  ·exact h ρ' H' st s' .non (by simp only [VR])
 | ret r T=>
  rw [eo] at h
  by_cases h2:d.two=true
  ·simp only [h2,if_true] at h
   exact adf s h
  simp only [h2] at h
  have h:PR G (fun cls d _ H'=>E cls d H') [] ρ H (Dz S.length r T) (okR G H Q):=h
  simp only [Dz] at h
  refine fun ρ' H' st s'=> ?_
  split at h
  ·rename_i hc
   cases r with
   | val v=>exact fun w hw=>Mj s st s' hc v w hw h
   | frs o=>
    refine fun p hp hn ho hs=> ?_
    have hle:=nT st s'
    refine Mj (T:=T++[o]) s (st.one hp) hs (by rw [List.take_append_of_le_length hle];exact hc) (.ref T.length) (.ref p) ?_ h
    simp only [VR]
    exact ⟨p,rfl,by rw [← s'.len];simp⟩
  ·exact h ρ' H' st s'
 | exc x η T=>
  rw [eo] at h
  simp only [adP] at h
  refine fun ρ' H' σ' st s' _=> ?_
  split at h
  ·rename_i hc
   have hle:=nT st s'
   obtain ⟨τ,rfl⟩:=st.pre
   have lt:(T.take S.length).length=S.length:=by rw [List.length_take];omega
   have eT:T.take S.length++T.drop S.length=T:=List.take_append_drop _ _
   have all:=List.all_eq_true.mp hc.1
   have sc:bf G ρ H' (T.take S.length):=bf.cut (τ:=τ) (T:=T.drop S.length) (by rw [eT];exact s') (by rw [lt];exact s.len) fun r o e=>by rw [lt];exact all o (List.mem_of_getElem? e)
   have q:=h ρ H' ⟨List.prefix_refl _,st.keep,fun a ha=>.inl ha,st.fz⟩ sc
   have hx:=hc.2
   unfold XW at q ⊢
   unfold Xc.lim at hx
   split at q
   ·exact q
   ·rename_i ns vs e
    exact fun d fs h1 h2 h3 h4=>q d fs h1 (fun z=>h2 (List.mem_append_left _ z)) h3 (au.less _ _ h4 (by rw [s.len];have z:=hx;rw [e] at z;exact z))
  ·have q:=h ρ' H' st s'
   unfold XW at q ⊢
   exact q
end
section
variable {G:bB} {P:Program} {w:World} {K:PySem.W.Frag} {mg:Str→Option Value} {base:Heap}
theorem Gp {ρ:List Addr} {H:Hp} {xs:List Vl} {vs:List V} {N:List Str} {nn:Nat} (hn:nn=N.length) (h:au G ρ H xs vs):ER G ρ H (xs.map some++List.replicate (nn - xs.length) none) (L2.start N vs) where
 len:=by unfold L2.start;simp [h.length,hn]
 at_:=fun i x e=>by
  unfold L2.start
  by_cases hi:i<xs.length
  ·rw [List.getElem?_append_left (by simpa using hi)] at e
   rw [List.getElem?_append_left (by simp [← h.length];exact hi)]
   rw [List.getElem?_map] at e ⊢
   cases ex:xs[i]? with
   | none=>rw [ex] at e;cases e
   | some y=>
    rw [ex] at e
    obtain ⟨v,e1,e2⟩:=h.get ex
    simp only [Option.map_some,Option.some.injEq] at e
    subst e
    exact ⟨v,by rw [e1];rfl,e2⟩
  ·rw [List.getElem?_append_right (by simp;omega)] at e
   rw [List.getElem?_replicate] at e
   split at e<;>simp at e
theorem akL {k:Nat} {f:Addr} {x bF q:Str} {params:Arguments} {body:List Stmt} {scope:Scope} {dvs:List V} {kws:List (Str × V)} {fd:FuncData} {N ps:List Str} {M M':aF} {d:jU} (F:FunD K x bF params body scope dvs kws f fd) (Sc:FnScope N ps scope)
  (hM:∀ xs S,M.cal q xs S=gK M' d xs S) (Rw:d.np=ps.length) (LC:d.nn=N.length)
  (pO:∀ (cI:Value) (A:Around) (outer:List Env) (s:Shared) (H:Hp) (E:XK),Room k (A.deeper (envOfC bF scope s.heap.objs.size f cI))→A.guards=some []→PSs (cxOf (L2.CX P w) P w K mg base N bF scope f cI A outer s H E) body (vM G M' (fun cls d _ H'=>E cls d H') d.body)) :
  qu P w K mg base (k+1) f fd ps (spI G M d.np q):=by
 obtain ⟨oc,od,dV,kV,xJ,pm,an,cI,ct,Xx,rfl,lk,Ba,_,_⟩:=F.ex
 refine ⟨fun vs H Q E h=>h.1.trans Rw,fun A outer s H args us vs Q E hr hgd e0 hb r Cp=> ?_⟩
 obtain ⟨Bp,ρ,S,xs,sim,hxs,hp⟩:=Cp
 rw [hM] at hp
 have pl:vs.length=ps.length:=Bp.trans Rw
 have ul:K.In s.heap:=e0.mod.kin.keeps fun b o e=>(e0.bs b o e).1
 have Gq:s.heap.NoLimit:=e0.mod.nolimit.keeps fun b o e=>(e0.bs b o e).1
 refine codeAny_call_function hr.depth (ul _ _ lk) rfl Sc.co Sc.gen rfl (PySem.W.codeRec_of ul Ba) (hb _ _ _ _ (wpAny_newFunctionEnv_cells Sc.kind (fun ⟨n,v⟩ hy=>(Sc.par n (List.of_mem_zip hy).1).imp id fun z=>⟨z,PySem.W.cellsFrom_some _ _ _ (.inl z)⟩) fun env he s1 x=> ?_))
 subst he
 refine ⟨Gq.keeps x.toInCall.keep,codeAny_func ?_⟩
 have xj:Inv (cxOf (L2.CX P w) P w K mg base N bF scope f cI A outer s H E) [] (L2.start N vs) H s1:=inv_start Sc hr.hd e0 pl r x
 have U7:=(pO cI A outer s H E (hr.deeper _) hgd).run [] s1 (L2.start N vs) H { nx:=fun _ H'=>Q .non H',rt:=Q } xj ⟨ρ,_,S,sim,Gp LC hxs,Ur sim (hxs.length.trans Bp) hp⟩
 refine wpAny_mono U7 (fun fl s' hs=> ?_) fun _ _ z=>z
 cases fl with
 | ret u=>obtain ⟨v,σ',H',J,rv,z⟩:=hs;exact ⟨v,H',J.os,J.bare,J.base,J.hok,rv,z⟩
 | next=>obtain ⟨σ',H',J,z⟩:=hs;exact ⟨.non,H',J.os,J.bare,J.base,J.hok,rfl,z⟩
 | brk=>obtain ⟨_,_,_,z⟩:=hs;exact z.elim
 | cont=>obtain ⟨_,_,_,z⟩:=hs;exact z.elim
end
end Oz
namespace Oz
open PySem L2 PyProof.Rows PySem.Spec
section
variable {α β:Type}
def sS (f:α→Str) (x:α):List α→List α
 | []=>[x]
 | y::ys=>if Le (f y) (f x) then y::sS f x ys else x::y::ys
def sortBy (f:α→Str):List α→List α
 | []=>[]
 | x::xs=>sS f x (sortBy f xs)
theorem G9 (f:α→Str) (x:α):∀ ys:List α,(sS f x ys).Perm (x::ys)
 | []=>.refl _
 | y::ys=>by
  unfold sS
  split
  ·exact ((G9 f x ys).cons y).trans (.swap x y ys)
  ·exact .refl _
theorem gW (f:α→Str):∀ xs:List α,(sortBy f xs).Perm xs
 | []=>.refl _
 | x::xs=>(G9 f x _).trans ((gW f xs).cons x)
theorem Jx (f:α→Str) (g:α→β) (k:β→Str) (h:∀ x,k (g x)=f x) (x:α):∀ ys:List α,sS k (g x) (ys.map g)=(sS f x ys).map g
 | []=>rfl
 | y::ys=>by
  simp only [List.map_cons,sS,h]
  split
  ·rw [List.map_cons,Jx f g k h x ys]
  ·rfl
theorem j6 (f:α→Str) (g:α→β) (k:β→Str) (h:∀ x,k (g x)=f x):∀ xs:List α,sortBy k (xs.map g)=(sortBy f xs).map g
 | []=>rfl
 | x::xs=>by
  simp only [List.map_cons,sortBy]
  rw [j6 f g k h xs,Jx f g k h x]
theorem Lq (x:Str):∀ ys:List Str,rN x ys=sS id x ys
 | []=>rfl
 | y::ys=>by simp only [rN,sS,id,Lq x ys]
theorem Fe:∀ xs:List Str,dO xs=sortBy id xs
 | []=>rfl
 | x::xs=>by simp only [dO,sortBy,Fe xs,Lq]
theorem V5 (x:Str × Vl):∀ ys:List (Str × Vl),acO x ys=sS (·.1) x ys
 | []=>rfl
 | y::ys=>by simp only [acO,sS,V5 x ys]
theorem Gz:∀ xs:List (Str × Vl),Rf xs=sortBy (·.1) xs
 | []=>rfl
 | x::xs=>by simp only [Rf,sortBy,Gz xs,V5]
theorem BV (f:α→Str) (xs:List α):(sortBy f xs).map f=dO (xs.map f):=by
 rw [Fe,j6 f f id (fun _=>rfl)]
theorem z8 (f:α→Str) (xs:List α):(sortBy f xs).Pairwise fun x y=>De (f x) (f y):=by
 have h:=CV (xs.map f)
 rw [← BV] at h
 exact List.pairwise_map.mp h
theorem NP {f:α→Str}:∀ {l:List α},(l.map f).Nodup→∀ x∈l,∀ y∈l,f x=f y→x=y
 | [],_,x,hx,_,_,_=>by cases hx
 | a::l,h,x,hx,y,hy,e=>by
  simp only [List.map_cons,List.nodup_cons] at h
  rcases List.mem_cons.mp hx with Jg | Jg<;>rcases List.mem_cons.mp hy with YZ | YZ
  ·rw [Jg,YZ]
  ·subst Jg;exact absurd (List.mem_map.mpr ⟨y,YZ,e.symm⟩) h.1
  ·subst YZ;exact absurd (List.mem_map.mpr ⟨x,Jg,e⟩) h.1
  ·exact NP h.2 x Jg y YZ e
theorem uE {f:α→Str} {xs ys:List α} (nd:(xs.map f).Nodup) (p:ys.Perm xs) (h:ys.Pairwise fun x y=>De (f x) (f y)):ys=sortBy f xs:=
 List.Perm.eq_of_pairwise (le:=fun x y=>De (f x) (f y)) (fun x y hx hy h1 h2=>NP nd x (p.mem_iff.mp hx) y ((gW f xs).mem_iff.mp hy) (yP h1 h2)) h (z8 f xs) (p.trans (gW f xs).symm)
end
def rkS (l:List Str) (z:Str):Int:=((dO l).idxOf z:Nat)
theorem afi {l:List Str} (nd:l.Nodup) {x y:Str} (hx:x∈l) (hy:y∈l):decide (x.cps.toList<y.cps.toList)=decide (rkS l x<rkS l y):=by
 have p:=z9 l
 have pw:=CV l
 have nd':(dO l).Nodup:=p.nodup_iff.mpr nd
 have Jg:=p.mem_iff.mpr hx
 have YZ:=p.mem_iff.mpr hy
 have key:∀ a b,a∈dO l→b∈dO l→(dO l).idxOf a<(dO l).idxOf b→a.cps.toList<b.cps.toList:=fun a b ha hb h=>by
  have la:=List.idxOf_lt_length_of_mem ha
  have lb:=List.idxOf_lt_length_of_mem hb
  have q:=List.pairwise_iff_getElem.mp pw _ _ la lb h
  rw [List.getElem_idxOf la,List.getElem_idxOf lb] at q
  rcases Ji b a with r | r
  ·have e:=yP q r
   subst e;omega
  ·by_cases c:a.cps.toList<b.cps.toList
   ·exact c
   ·have e:=yP q (vG.mpr c)
    subst e;omega
 refine decide_eq_decide.mpr ⟨fun h=> ?_,fun h=> ?_⟩
 ·unfold rkS
  rcases Nat.lt_trichotomy ((dO l).idxOf x) ((dO l).idxOf y) with c | c | c
  ·omega
  ·have lx:=List.idxOf_lt_length_of_mem Jg
   have ly:=List.idxOf_lt_length_of_mem YZ
   have e:x=y:=by
    rw [← List.getElem_idxOf lx,← List.getElem_idxOf ly]
    simp only [c]
   subst e
   exact absurd h (List.lt_irrefl _)
  ·exact absurd (key y x YZ Jg c) (List.not_lt.mpr (List.le_of_lt h))
 ·refine key x y Jg YZ ?_
  unfold rkS at h
  omega
def Fg (h:Heap) (v:Value) (y:Str):Prop:=∃ (a:Addr) (o:Obj) (n:Nat) (t:Tok) (b:Value),v=.ref a∧h.get? a=some o∧o.cls=.type "tuple"∧o.data=.seq #[.str y t,b] n
def di (h:Heap) (v:Value):Str:=match v with
 | .ref a=>match h.get? a with
  | some o=>match o.data with
   | .seq xs _=>match xs[0]? with
    | some (Value.str y _)=>y
    | _=>Str.empty
   | _=>Str.empty
  | none=>Str.empty
 | _=>Str.empty
theorem Fg.tx {h:Heap} {v:Value} {y:Str} (x:Fg h v y):di h v=y:=by
 obtain ⟨a,o,n,t,b,rfl,ho,hc,hd⟩:=x
 simp only [di,ho,hd]
 rfl
theorem Fg.keeps {h h':Heap} {v:Value} {y:Str} (x:Fg h v y) (k:∀ b o,h.get? b=some o→o.cls=.type "tuple"→h'.get? b=some o):Fg h' v y:=by
 obtain ⟨a,o,n,t,b,e,ho,hc,hd⟩:=x
 exact ⟨a,o,n,t,b,e,k _ _ ho hc,hc,hd⟩
section
variable {prog:Program} {w:World} {A:Around} {E:Value→Shared→Prop} {s:Shared}
theorem Jj {h:Heap}:∀ vs:List Value,(∀ v∈vs,∃ y,Fg h v y)→∃ fs:List Value,PySem.W.KatTups h vs fs∧fs.length=vs.length∧∀ f∈fs,∃ y t,f=Value.str y t
 | [],_=>⟨[],PySem.W.KatTups.nil,rfl,fun f hf=>by simp at hf⟩
 | v::vs,x=>by
  obtain ⟨fs,k,hl,hi⟩:=Jj vs fun u hu=>x u (List.mem_cons_of_mem _ hu)
  obtain ⟨y,a,o,n,t,b,rfl,ho,hc,hd⟩:=x v (List.mem_cons_self ..)
  refine ⟨.str y t::fs,PySem.W.KatTups.cons ho hc hd rfl k,by rw [List.length_cons,List.length_cons,hl],fun f hf=> ?_⟩
  rcases List.mem_cons.mp hf with rfl | hf
  ·exact ⟨y,t,rfl⟩
  ·exact hi f hf
theorem adi {vs:List Value} {ρ:Str→Int} (h2:2≤vs.length) (x:∀ v∈vs,∃ y,Fg s.heap v y) (Uh:∀ v∈vs,∀ u∈vs,di s.heap v=di s.heap u→v=u)
  (hρ:∀ v∈vs,∀ u∈vs,decide ((di s.heap v).cps.toList<(di s.heap u).cps.toList)=decide (ρ (di s.heap v)<ρ (di s.heap u))) (Q:SortKind→Shared→Prop)
  (h:∀ κ,TS.Cmp prog w A s κ (pairsOf vs) (fun v=>ρ (di s.heap v))→Q κ s):wpAny (model prog w) A (keyKind' vs.toArray) Q E s:=by
 obtain ⟨fs,k,hl,hi⟩:=Jj vs x
 refine PySem.W.kat_kind (T:=Value.type "str") k (by omega) (fun f hf=> ?_) rfl (h _ ?_)
 ·obtain ⟨y,t,rfl⟩:=hi f hf
  exact PySem.W.Looks.of_pure rfl
 ·intro p q hp hq Q' E' hQ
  rw [pairsOf_toList] at hp hq
  have mp:=(PyProof.Rows.mem_zip_self hp).2
  have mq:=(PyProof.Rows.mem_zip_self hq).2
  obtain ⟨y,py⟩:=x _ mp
  obtain ⟨z,pz⟩:=x _ mq
  have hr:=hρ _ mp _ mq
  have hi:=Uh _ mp _ mq
  have hQ':Q' (decide (y.cps.toList<z.cps.toList)) s:=by
   rw [py.tx,pz.tx] at hr
   rw [hr]
   have hQ2:Q' (decide (ρ (di s.heap p.1)<ρ (di s.heap q.1))) s:=hQ
   rw [py.tx,pz.tx] at hQ2
   exact hQ2
  rw [py.tx,pz.tx] at hi
  obtain ⟨a,o,n,t,b,e1,ho,hc,hd⟩:=py
  obtain ⟨a',o',n',t',b',e2,ho',hc',hd'⟩:=pz
  rw [e1,e2] at hi
  rw [e1,e2]
  refine PySem.W.kat_lt ho hd ho' hd' ?_
  show PySem.W.KatLex prog w A _ false Q' [(Value.str y t,Value.str z t'),(b,b')] 0 s
  by_cases e:y=z
  ·have e3:a=a':=by
    have:=hi e
    injection this
   subst e3
   have e4:o=o':=by rw [ho] at ho';exact Option.some.inj ho'
   subst e4
   rw [hd] at hd'
   injection hd' with h5 _
   have e6:b=b':=by
    have:=congrArg (fun a=>a[1]?) h5
    simpa using this
   subst e e6
   have irr:decide (y.cps.toList<y.cps.toList)=false:=decide_eq_false (List.lt_irrefl _)
   rw [irr] at hQ'
   refine PySem.W.kat_cons (wpAny_eqBool_str ?_)
   rw [decide_eq_true rfl]
   refine PySem.W.kat_yes (PySem.W.kat_cons (SeqAt.EqAt.same b prog w _ _ ?_))
   exact PySem.W.kat_yes (PySem.W.kat_nil hQ')
  ·refine PySem.W.kat_cons (wpAny_eqBool_str ?_)
   rw [decide_eq_false e]
   exact PySem.W.kat_no (PyProof.Rows.oneLt_any_str hQ')
theorem Qv {l:Addr} {vs:List Value} {Q:List Value→Shared→Prop} (hl:s.heap.IsList l vs.toArray∨IsTup s.heap l vs.toArray)
  (h:Q vs { s with heap:=(s.heap.push (seqObj "list" #[] 0)).update s.heap.objs.size (Obj.mapSeq (·++vs.toArray)) }) (Z7:vs.length≤sizeLine) :
  wpAny (model prog w) A (collect (.ref l)) Q E s:=by
 rcases hl with hl | hl
 ·exact collect_list hl h Z7
 obtain ⟨o,ho,hc,n,hd⟩:=id hl
 unfold collect
 refine wpAny_bind (wpAny_runValue (codeAny_builtin entry_proto_collect' ?_))
 show wpAny _ _ (do again (.builtin "list.__iadd__" ⟨[← newList [],.ref l],[]⟩)) _ _ s
 refine wpAny_bind (wpAny_newList (wpAny_pure ⟨Code.quiet_builtin _ (by decide+kernel),codeAny_builtin entry_list_iadd' ?_⟩))
 show wpAny _ _ (Builtin.List.listExtendWith (.ref s.heap.objs.size) (.ref l) (.ref s.heap.objs.size)) _ _ { s with heap:=s.heap.push (seqObj "list" #[] 0) }
 unfold Builtin.List.listExtendWith
 have ho':(s.heap.push (seqObj "list" #[] 0)).get? l=some o:=Heap.get?_push_of_some _ ho
 refine wpAny_bind (wpAny_typeOf (T:="tuple") ⟨o,ho',hc⟩ ?_)
 have ht:(Value.type "tuple"==Value.type "tuple")=true:=by rfl
 rw [if_pos (by rw [ht];simp)]
 refine wpAny_bind (listItems_at ho' hd ?_)
 refine wpAny_bind (listItems_at (xs:= #[]) (n:=0) (Heap.get?_push_size _ rfl) rfl ?_)
 rw [if_neg (by simp)]
 refine wpAny_bind (listUpdate_at (xs:= #[]) (n:=0) (Heap.get?_push_size _ rfl) rfl ?_ (Nat.zero_le _) (by show (#[]++vs.toArray).size≤sizeLine+1;simp only [Array.size_append,List.size_toArray,List.length_nil];omega))
 refine wpAny_pure ?_
 show wpAny (model prog w) A (do
   let o ← load s.heap.objs.size
   match o.data with
   | .seq xs _=>pure xs.toList
   | _=>unsupported "internal:collect") Q E { s with heap:=(s.heap.push (seqObj "list" #[] 0)).update s.heap.objs.size (Obj.mapSeq (·++vs.toArray)) }
 refine wpAny_bind (wpAny_load (get?_update_seq (Heap.get?_push_size _ rfl) _) ?_)
 show wpAny _ _ (pure ((#[]:Array Value)++vs.toArray).toList) Q E _
 rw [show ((#[]:Array Value)++vs.toArray).toList=vs by simp]
 exact wpAny_pure h
theorem Gu {h h':Heap} {v:Value} {y:Str} (x:Fg h v y) (k:∀ b o,h.get? b=some o→o.cls=.type "tuple"→h'.get? b=some o):di h' v=di h v:=by rw [x.tx,(x.keeps k).tx]
theorem acP {a:Addr} {vs:List Value} {n:Nat} {P:PySem.Fin→Shared→Prop} (ρ:Str→Int) (ho:s.heap.get? a=some (seqObj "list" vs.toArray n)) (h64:vs.length<64) (x:∀ v∈vs,∃ y,Fg s.heap v y) (Uh:∀ v∈vs,∀ u∈vs,di s.heap v=di s.heap u→v=u)
  (hρ:∀ v∈vs,∀ u∈vs,decide ((di s.heap v).cps.toList<(di s.heap u).cps.toList)=decide (ρ (di s.heap v)<ρ (di s.heap u)))
  (h:∀ out:Array Value,out.toList.Perm vs→out.toList.Pairwise (fun u v=>ρ (di s.heap u)≤ρ (di s.heap v))→P (.done (.ret .none)) { s with heap:=sortedHeap s.heap a vs out }) :
  wpAny (model prog w) A (Builtin.«list.sort» ⟨[.ref a],[]⟩) P E s:=by
 have keep:∀ b o,s.heap.get? b=some o→o.cls=.type "tuple"→(TS.midHeap s.heap a vs).get? b=some o:=fun b o e hc=>by
  refine TS.midHeap_old ?_ e
  rintro rfl
  rw [ho] at e
  have e':seqObj "list" vs.toArray n=o:=Option.some.inj e
  rw [← e'] at hc
  have c':Value.type "list"=Value.type "tuple":=hc
  injection c' with c''
  exact absurd c'' (by decide)
 have tk:∀ v∈vs,di (TS.midHeap s.heap a vs) v=di s.heap v:=fun v hv=>by
  obtain ⟨y,py⟩:=x v hv
  exact Gu py keep
 refine SK.plain_sort (r:=fun v=>ρ (di s.heap v)) ho h64 (fun h2 Q hQ=> ?_) fun ps out h1 h2 h3=> ?_
 ·refine adi (s:={ s with heap:=TS.midHeap s.heap a vs }) (ρ:=ρ) h2 (fun v hv=>let ⟨y,py⟩:=x v hv;⟨y,py.keeps keep⟩) (fun v hv u hu e=>Uh v hv u hu (by rw [← tk v hv,← tk u hu];exact e)) (fun v hv u hu=>by
   show decide ((di (TS.midHeap s.heap a vs) v).cps.toList<(di (TS.midHeap s.heap a vs) u).cps.toList)=decide (ρ (di (TS.midHeap s.heap a vs) v)<ρ (di (TS.midHeap s.heap a vs) u))
   rw [tk v hv,tk u hu];exact hρ v hv u hu) Q (fun κ hκ=>hQ κ ?_)
  intro p q hp hq Q' E' hq'
  refine hκ p q hp hq Q' E' ?_
  rw [pairsOf_toList] at hp hq
  have e1:=tk _ (PyProof.Rows.mem_zip_self hp).2
  have e2:=tk _ (PyProof.Rows.mem_zip_self hq).2
  show Q' (decide (ρ (di (TS.midHeap s.heap a vs) p.1)<ρ (di (TS.midHeap s.heap a vs) q.1))) _
  rw [e1,e2]
  exact hq'
 ·obtain ⟨p,o⟩:=TS.out_rank (r:=fun v=>ρ (di s.heap v)) h1 h2 h3
  exact h out p o
theorem Y4 {l:Addr} {vs:List Value} {Q:Value→Shared→Prop} (ρ:Str→Int) (hl:s.heap.IsList l vs.toArray∨IsTup s.heap l vs.toArray) (h64:vs.length<64) (x:∀ v∈vs,∃ y,Fg s.heap v y) (Uh:∀ v∈vs,∀ u∈vs,di s.heap v=di s.heap u→v=u)
  (hρ:∀ v∈vs,∀ u∈vs,decide ((di s.heap v).cps.toList<(di s.heap u).cps.toList)=decide (ρ (di s.heap v)<ρ (di s.heap u)))
  (h:∀ out:Array Value,out.toList.Perm vs→out.toList.Pairwise (fun u v=>ρ (di s.heap u)≤ρ (di s.heap v))→Q (.ref (s.heap.objs.size+1)) { s with heap:=sortedAll s.heap vs out }) :
  wpAny (model prog w) A (call (.builtin "sorted") [.ref l]) Q E s:=by
 refine Calls.call_function_entry kind_sorted plain_sorted entry_sorted (args_sorted1 _) ?_
 unfold Builtin.«sorted»
 refine wpAny_bind (m:=checkCount "sorted" 1 1 _) (wpAny_pure ?_)
 refine wpAny_bind (Qv hl ?_ (by rw [sizeLine_eq];omega))
 refine wpAny_bind (wpAny_newList ?_ (by rw [sizeLine_eq];omega))
 have Z7:((s.heap.push (seqObj "list" #[] 0)).update s.heap.objs.size (Obj.mapSeq (·++vs.toArray))).objs.size=s.heap.objs.size+1:=by
  rw [Heap.size_update,size_push']
 have hoL:(((s.heap.push (seqObj "list" #[] 0)).update s.heap.objs.size (Obj.mapSeq (·++vs.toArray))).push (seqObj "list" vs.toArray 0)).get? (s.heap.objs.size+1)=some (seqObj "list" vs.toArray 0):=by
  rw [← Z7];exact Heap.get?_push_size _ rfl
 have keep:∀ b o,s.heap.get? b=some o→o.cls=.type "tuple"→(((s.heap.push (seqObj "list" #[] 0)).update s.heap.objs.size (Obj.mapSeq (·++vs.toArray))).push (seqObj "list" vs.toArray 0)).get? b=some o:=fun b o q _=>by
  have Zg:b<s.heap.objs.size:=Heap.lt_size q
  rw [Heap.get?_push_ne _ _ _ (by rw [Z7];exact Nat.ne_of_lt (Nat.lt_succ_of_lt Zg)),Heap.get?_update_ne _ _ _ _ (Nat.ne_of_lt Zg),Heap.get?_push_ne _ _ _ (Nat.ne_of_lt Zg)]
  exact q
 have tk:=fun v hv=>let ⟨y,py⟩:=x v hv;Gu py keep
 show wpAny _ _ _ _ _ { s with heap:=((s.heap.push (seqObj "list" #[] 0)).update s.heap.objs.size (Obj.mapSeq (·++vs.toArray))).push (seqObj "list" vs.toArray 0) }
 rw [Z7]
 refine wpAny_bind (wpAny_holding (wpAny_call_entry slot_list_sort ⟨_,hoL,rfl⟩ entry_list_sort (acP ρ hoL h64 (fun v hv=>let ⟨y,py⟩:=x v hv;⟨y,py.keeps keep⟩) (fun v hv u hu e=>Uh v hv u hu (by rw [← tk v hv,← tk u hu];exact e)) (fun v hv u hu=> ?_) fun out a1 a2=>⟨_,rfl,?_⟩) (args_list_sort _)))
 ·show decide ((di (((s.heap.push (seqObj "list" #[] 0)).update s.heap.objs.size (Obj.mapSeq (·++vs.toArray))).push (seqObj "list" vs.toArray 0)) v).cps.toList<(di (((s.heap.push (seqObj "list" #[] 0)).update s.heap.objs.size (Obj.mapSeq (·++vs.toArray))).push (seqObj "list" vs.toArray 0)) u).cps.toList)=decide (ρ (di (((s.heap.push (seqObj "list" #[] 0)).update s.heap.objs.size (Obj.mapSeq (·++vs.toArray))).push (seqObj "list" vs.toArray 0)) v)<ρ (di (((s.heap.push (seqObj "list" #[] 0)).update s.heap.objs.size (Obj.mapSeq (·++vs.toArray))).push (seqObj "list" vs.toArray 0)) u))
  rw [tk v hv,tk u hu];exact hρ v hv u hu
 ·refine wpAny_pure ⟨_,rfl,h out a1 ?_⟩
  refine List.Pairwise.imp_of_mem (fun {u v} hu hv q=> ?_) a2
  have q':ρ (di (((s.heap.push (seqObj "list" #[] 0)).update s.heap.objs.size (Obj.mapSeq (·++vs.toArray))).push (seqObj "list" vs.toArray 0)) u)≤ρ (di (((s.heap.push (seqObj "list" #[] 0)).update s.heap.objs.size (Obj.mapSeq (·++vs.toArray))).push (seqObj "list" vs.toArray 0)) v):=q
  rw [tk u (a1.mem_iff.mp hu),tk v (a1.mem_iff.mp hv)] at q'
  exact q'
end
end Oz
namespace Oz
open PySem L2 PyProof.Rows
noncomputable def mach (kd:Str→Option (List (Str × Vl))) (ds:Str→Option jU) (fu:Nat) (sub:Str→Str→Option Bool) (xi:Str→Option (Option Str)):Nat→aF
 | 0=>⟨fun _ _ _=>.bad,kd,fu,sub,xi⟩
 | n+1=>⟨fun q xs S=>match ds q with
  | some d=>gK (mach kd ds fu sub xi n) d xs S
  | none=>.bad,kd,fu,sub,xi⟩
section
variable {kd:Str→Option (List (Str × Vl))} {ds:Str→Option jU} {fu n:Nat} {sub:Str→Str→Option Bool} {xi:Str→Option (Option Str)}
theorem bH {q:Str} {d:jU} (h:ds q=some d) (xs:List Vl) (S:Hs):(mach kd ds fu sub xi (n+1)).cal q xs S=gK (mach kd ds fu sub xi n) d xs S:=by
 simp only [mach,h]
theorem tX:(mach kd ds fu sub xi n).sub=sub:=by cases n<;>rfl
theorem Lr:(mach kd ds fu sub xi n).xi=xi:=by cases n<;>rfl
end
theorem Good.le {G:bB} {j k:Nat} {X:Cx} (g:Good G k X) (h:j≤k):Good G j X:=⟨g.K,g.nd,g.room.mono h,g.N7,g.er⟩
theorem HY {X:Cx}:Takes X WF:=fun u s' ⟨_,_,_,_,_,_,_,_,_,_,_,_,_,_,_,_,w⟩=>w.elim
theorem Es.oH:∀ es:Es,es.app []=es
 | .nil=>by simp only [Es.app]
 | .cons e es=>by simp only [Es.app,Es.oH es]
section
variable {P:Program} {w:World} {K:PySem.W.Frag} {mg:Str→Option Value} {base:Heap} {G:bB} {M:aF} {W:WX} {X:Cx} {k n:Nat} {x q c m:Str} {a b e:Expr} {es:List Expr} {ca cb:E} {cU cs kes:Es} {p pos cH:Pos} {dxs:List Vl} {ks:List Str} {kws:List Keyword}
structure Cal (P:Program) (w:World) (K:PySem.W.Frag) (mg:Str→Option Value) (base:Heap) (G:bB) (M:aF) (k:Nat) (x q:Str) (n:Nat):Prop where
 ex:∃ (f:Addr) (fd:FuncData) (ps:List Str),qu P w K mg base k f fd ps (spI G M n q)∧mg x=some (.ref f)∧PySem.W.keepIn K (.ref f)=true∧Binds K fd ps []
structure Met (P:Program) (w:World) (K:PySem.W.Frag) (mg:Str→Option Value) (base:Heap) (G:bB) (M:aF) (k:Nat) (c m:Str) (n:Nat):Prop where
 ex:∃ (f:Addr) (fd:FuncData) (ps:List Str),qu P w K mg base k f fd ps (spI G M n (dot c m))∧Cls K (G.cl c)∧Meth K (G.cl c) m f∧Binds K fd ps []
structure Mak (P:Program) (w:World) (K:PySem.W.Frag) (mg:Str→Option Value) (base:Heap) (G:bB) (M:aF) (k:Nat) (x c:Str) (n:Nat) (ks:List Str) (dxs:List Vl):Prop where
 ex:∃ (f:Addr) (fd:FuncData) (ps:List Str) (mv:List Value) (dvs:List V),qu P w K mg base k f fd ps (spI G M (n+1+ks.length+dxs.length) (dot c "__init__"))∧Mk K (G.cl c) f∧mg x=some (.ref (G.cl c))∧KBn K fd ps (n+1) ks (fun us ws=>us++ws++mv) (fun vs zs=>vs++zs++dvs)∧Bg G dxs dvs
structure EqM (P:Program) (w:World) (K:PySem.W.Frag) (mg:Str→Option Value) (base:Heap) (G:bB) (M:aF) (k:Nat) (c:Str):Prop where
 ex:∃ (f:Addr) (fd:FuncData) (ps:List Str),qu P w K mg base k f fd ps (spI G M 2 (dot c "__eq__"))∧EqC K (G.cl c) f∧Binds K fd ps []
structure LnM (P:Program) (w:World) (K:PySem.W.Frag) (mg:Str→Option Value) (base:Heap) (G:bB) (M:aF) (k:Nat) (c:Str):Prop where
 ex:∃ (f:Addr) (fd:FuncData) (ps:List Str),qu P w K mg base k f fd ps (spI G M 1 (dot c "__len__"))∧PySem.W.findIn K (.ref (G.cl c)) "__len__"=some (some (.ref f))∧PySem.W.isFn K (.ref f)=true∧Binds K fd ps []
theorem xv (i:Nat) (hN:X.N[i]? =some x:=by rfl) (hv:Vis X.env.scope x:=by first | exact Or.inl rfl | exact Or.inr (Or.inl rfl) | exact Or.inr (Or.inr rfl)) (hd:(x==("__debug__":Str))=false:=by decide) (Ba:(x==("__classdict__":Str))=false:=by decide):PE X (.Name x pos) (tE G M W (.var i)):=aeD hN hv hd Ba
theorem aN {i:Int} {j:Nat}:PE X (.Constant (.int i) j pos) (tE G M W (.cst (.int i))):=yR pe_int fun _ _=>by simp only [VR]
theorem dF {z:Str} {j:Nat}:PE X (.Constant (.str z) j pos) (tE G M W (.cst (.str z))):=yR pe_str fun _ _=>by simp only [VR]
theorem uK {z:Bool} {j:Nat}:PE X (.Constant (.bool z) j pos) (tE G M W (.cst (.bl z))):=yR pe_bl fun _ _=>by simp only [VR]
theorem acT {j:Nat}:PE X (.Constant .none j pos) (tE G M W (.cst .non)):=yR pe_non fun _ _=>by simp only [VR]
theorem Vo {u:Value} {v:V} {z:Vl} (hm:X.mg x=some u) (r:RelV v u) (hz:∀ ρ H,VR G ρ H z v) (hg:Gl X x:=by rfl) (hd:(x==("__debug__":Str))=false:=by decide):PE X (.Name x pos) (tE G M W (.cst z)):=yR (pe_glob hg hm r hd) hz
theorem Zy {op:BoolOp} (h:PE X a (tE G M W ca)):PE X (.BoolOp op [a] pos) (tE G M W ca):=pe_one h
theorem gn (g:Good G k X) (i:Nat) (hi:X.N[i]? =some x:=by rfl) (hx:Loc X.env.scope x:=by first | exact Or.inl rfl | exact Or.inr rfl) (hf:X.fn x=true∨X.env.scope.names.lookup x=some .local:=by first | exact .inl rfl | exact .inr rfl | assumption):PG X (.Name x pos) (tG G (.nm i)):=ajt g i hi hx hf
theorem eE (ha:PE X a (tE G M W ca)) (hs:starEach [a] X.env=(false,eval a X.env)::starEach [] X.env:=by rfl):PA X [a] (tA G M W (.cons ca .nil)):=uA ha gH hs
theorem eQ (ha:PE X a (tE G M W ca)) (hr:PA X es (tA G M W cU)) (hs:starEach (a::es) X.env=(false,eval a X.env)::starEach es X.env:=by rfl):PA X (a::es) (tA G M W (.cons ca cU)):=uA ha hr hs
theorem cv [bT G X] (g:Good G (k+1) X) (c:Cal X.prog X.w X.K X.mg X.base G M k x q n) (tk:Takes X W) (ha:PA X (e::es) (tA G M W cU)) (hn:cU.len=n:=by rfl) (hg:Gl X x:=by rfl) (sX:(x==("__debug__":Str))=false:=by decide) (he:starEach (e::es) X.env=(false,eval e X.env)::starEach es X.env:=by rfl) (jt:(backTo pos (starEach es X.env)).any (·.1)=false:=by rfl):PE X (.Call (.Name x p) (e::es) [] pos) (tE G M W (.call q cU)):=by
 obtain ⟨f,fd,ps,F,hm,hk,hb⟩:=c.ex
 refine (Q8 g F hg hm hk (dxs:=[]) (dvs:=[]) hb .nil (fun _ _=>au.nil) tk ha sX he jt).imp fun σ H Q h=>CN (fun η S xs S1 h=> ?_) (by rw [Es.oH];exact h)
 rw [mJ _ _ _ _ _ h,hn];rfl
theorem cf [bT G X] (g:Good G (k+1) X) (c:Cal X.prog X.w X.K X.mg X.base G M k x q n) (tk:Takes X W) (ha:PA X (e::es) (tA G M W cU)) (hn:cU.len=n:=by rfl) (hg:Gl X x:=by rfl) (sX:(x==("__debug__":Str))=false:=by decide) (he:starEach (e::es) X.env=(false,eval e X.env)::starEach es X.env:=by rfl) (jt:(backTo pos (starEach es X.env)).any (·.1)=false:=by rfl):PE X (.Call (.Name x p) (e::es) [] pos) (tF G M W (.call q cU)):=by
 obtain ⟨f,fd,ps,F,hm,hk,hb⟩:=c.ex
 refine (Q8 g F hg hm hk (dxs:=[]) (dvs:=[]) hb .nil (fun _ _=>au.nil) tk ha sX he jt).imp fun σ H Q h=>aef (fun η S xs S1 h=> ?_) (by rw [Es.oH];exact h)
 rw [mJ _ _ _ _ _ h,hn];rfl
theorem mv0 {pl:Sem Bool} [bT G X] (g:Good G (k+1) X) (cm:Met X.prog X.w X.K X.mg X.base G M k c m 1) (tk:Takes X W) (ha:PE X a (tE G M W ca))
  (ht:eval (.Call (.Attribute a m cH) [] [] pos) X.env=(do
   let ov ← eval a X.env
   standAt cH.atName
   let (f,first) ← holding [ov] (getMethod ov m pl)
   callWith pos f first (backTo pos (starEach [] X.env)) (backToKw pos (keywordEach [] X.env))):=by rfl):PE X (.Call (.Attribute a m cH) [] [] pos) (tE G M W (.Zi c m ca .nil)):=by
 obtain ⟨f,fd,ps,F,hC,hm,hb⟩:=cm.ex
 exact (acR g F hC hm hb (dxs:=[]) (dvs:=[]) .nil (fun _ _=>au.nil) tk ha ht).imp fun σ H Q h=>V1 rfl (by rw [Es.oH];exact h)
theorem mv {pl:Sem Bool} [bT G X] (g:Good G (k+1) X) (cm:Met X.prog X.w X.K X.mg X.base G M k c m n) (tk:Takes X W) (ha:PE X a (tE G M W ca)) (hes:PA X (e::es) (tA G M W cU)) (hn:cU.len+1=n:=by rfl) (Ru:starEach (e::es) X.env=(false,eval e X.env)::starEach es X.env:=by rfl) (jt:(backTo pos (starEach es X.env)).any (·.1)=false:=by rfl)
  (ht:eval (.Call (.Attribute a m cH) (e::es) [] pos) X.env=(do
   let ov ← eval a X.env
   standAt cH.atName
   let (f,first) ← holding [ov] (getMethod ov m pl)
   callWith pos f first (backTo pos (starEach (e::es) X.env)) (backToKw pos (keywordEach [] X.env))):=by rfl):PE X (.Call (.Attribute a m cH) (e::es) [] pos) (tE G M W (.Zi c m ca cU)):=by
 obtain ⟨f,fd,ps,F,hC,hm,hb⟩:=cm.ex
 exact (ad8 g F hC hm hb (dxs:=[]) (dvs:=[]) .nil (fun _ _=>au.nil) tk ha hes Ru jt ht).imp fun σ H Q h=>V1 (by simpa using hn) (by rw [Es.oH];exact h)
theorem nw [bT G X] (g:Good G (k+1) X) (cm:Mak X.prog X.w X.K X.mg X.base G M k x c n [] dxs) (tk:Takes X W) (ha:PA X (e::es) (tA G M W cU)) (hn:cU.len=n:=by rfl) (hcs:cs=cU.app dxs:=by simp only [Es.app,Es.cat]<;>rfl) (hg:Gl X x:=by rfl) (sX:(x==("__debug__":Str))=false:=by decide) (he:starEach (e::es) X.env=(false,eval e X.env)::starEach es X.env:=by rfl) (jt:(backTo pos (starEach es X.env)).any (·.1)=false:=by rfl):PE X (.Call (.Name x p) (e::es) [] pos) (tF G M W (.new c cs)):=by
 obtain ⟨f,fd,ps,mv,dvs,F,mk,hm,hb,hc⟩:=cm.ex
 subst hcs
 exact agr g F mk hg hm hb hc tk ha hn sX he jt
theorem ln [bT G X] (g:Good G (k+1) X) (cm:LnM X.prog X.w X.K X.mg X.base G M k c) (hm:X.mg "len"=none) (ha:PE X a (tE G M W ca)) (hg:Gl X "len":=by rfl) (Tj:starEach [a] X.env=[(false,eval a X.env)]:=by rfl) (he:starEach [a] X.env=(false,eval a X.env)::starEach [] X.env:=by rfl) (jt:(backTo pos (starEach [] X.env)).any (·.1)=false:=by rfl):PE X (.Call (.Name "len" p) [a] [] pos) (tE G M W (.agR c ca)):=by
 obtain ⟨f,fd,ps,F,hs,hf,hb⟩:=cm.ex
 exact aes g F hs hf hb hg hm ha Tj he jt
theorem eqv [bT G X] (g:Good G (k+3) X) (cm:EqM X.prog X.w X.K X.mg X.base G M k c) (ha:PE X a (tE G M W ca)) (ZJ:PE X b (tE G M W cb)) (hm:behindInMarks .Eq b=false:=by exact nomark _):PE X (.Compare a [.Eq] [b] pos) (tE G M W (.oeq c false ca cb)):=by
 obtain ⟨f,fd,ps,F,ec,hb⟩:=cm.ex
 exact adZ g F ec hb ha ZJ hm
theorem XQ (g:Good G k X) (op:CmpOp) (ha:PE X a (tE G M W ca)) (hb:PE X b (tE G M W cb)) (hm:behindInMarks op b=false:=by first | exact nomark _ | rfl):PE X (.Compare a [op] [b] pos) (tE G M W (.cmp op ca cb)):=adF g op ha hb hm
theorem mj (g:Good G k X) (op:CmpOp) (ha:PE X a (tE G M W ca)) (hb:PE X b (tE G M W cb)) (hm:behindInMarks op b=false:=by first | exact nomark _ | rfl):PT X (.Compare a [op] [b] pos) (tQ G M W (.cmp op ca cb)):=aeq g op ha hb hm
theorem acE {o1 o2:CmpOp} {d:Expr} {cd:E} (g:Good G k X) (ha:PE X a (tE G M W ca)) (hb:PE X b (tE G M W cb)) (hd:PE X d (tE G M W cd)) (hm:lastMarks [o1,o2] [b,d]=false:=by rfl):PE X (.Compare a [o1,o2] [b,d] pos) (tE G M W (.Rq o1 o2 ca cb cd)):=ac8 g o1 o2 ha hb hd hm
theorem alO {o1 o2:CmpOp} {d:Expr} {cd:E} (g:Good G k X) (ha:PE X a (tE G M W ca)) (hb:PE X b (tE G M W cb)) (hd:PE X d (tE G M W cd)) (hm:lastMarks [o1,o2] [b,d]=false:=by rfl):PT X (.Compare a [o1,o2] [b,d] pos) (tQ G M W (.Rq o1 o2 ca cb cd)):=ac9 g o1 o2 ha hb hd hm
theorem tv (h:PE X e (tE G M W ca)) (he:∀ whole,isTrue e X.env whole=(do let v ← whole;standAt e.pos;holding [v] (truthy v)):=by intro _;rfl):PT X e (tQ G M W ca):=aeE h he
theorem ix (g:Good G k X) (ha:PE X a (tE G M W ca)) (hb:PE X b (tE G M W cb)) (hs:PlainIx b:=by intro _ _;rfl):PE X (.Subscript a b pos) (tE G M W (.idx ca cb)):=acW g ha hb hs
structure Kd (w:World) (K:PySem.W.Frag) (mg:Str→Option Value) (G:bB) (M:aF) (x:Str):Prop where
 ex:∃ (d:Addr) (kv:List (Str × Vl)),afK G w d kv∧M.kd x=some kv∧mg x=some (.ref d)
end
end Oz
namespace Oz
open PySem PySem.Spec L2 PyProof.Rows
section
variable {X:Cx} {st:Stmt} {rest:List Stmt} {t t':TS} {e:Expr} {es:List Expr} {te te':TE} {ta ta':TA}
theorem PET.imp (h:PET X e te) (k:∀ σ H Q,te' σ H Q→te σ H Q):PET X e te':=fun pins s σ H Q h0 I q=>h pins s σ H Q h0 I (k σ H Q q)
theorem PAT.imp (h:PAT X es ta) (k:∀ σ H Q,ta' σ H Q→ta σ H Q):PAT X es ta':=fun pos pins s σ H Q h0 I q=>h pos pins s σ H Q h0 I (k σ H Q q)
theorem PST.imp (h:PST X st t) (k:∀ D σ H,t' D σ H→t D σ H):PST X st t':=fun pins s σ H D h0 I q=>h pins s σ H D h0 I (k D σ H q)
theorem PSsT.imp (h:PSsT X rest t) (k:∀ D σ H,t' D σ H→t D σ H):PSsT X rest t':=fun pins s σ H D h0 I q=>h pins s σ H D h0 I (k D σ H q)
theorem PET.of (h:PE X e te):PET X e te:=fun pins s σ H Q _ I q=>h.run pins s σ H Q I q
end
section
variable {G:bB} {M:aF} {W:WX} {X:Cx} {k:Nat} {a b e:Expr} {es:List Expr} {ca cb ce:E} {cf:F} {cU:Es} {c:C} {cs:Cs} {st:Stmt} {rest:List Stmt} {pos:Pos}
theorem xG (h1:PST X st (tC G M W c)) (h2:PSsT X rest (vM G M W cs)):PSsT X (st::rest) (vM G M W (.cons c cs)):=PSsT.imp (psst_cons h1 h2) fun D σ H ⟨ρ,η,S,s,r,h⟩=>⟨ρ,η,S,s,r,by
 simp only [exec] at h
 cases e:aP M c η S with
 | nx η1 S1=>
  rw [e] at h
  exact fun ρ1 H1 σ1 st s1 r1=>⟨ρ1,η1,S1,s1,r1,PQ.step s st s1 h⟩
 | _=>rw [e] at h;exact h⟩
theorem QC (he:PET X e (tE G M W ce)):PST X (.Return (some e) pos) (tC G M W (.ret ce)):=PST.imp (CwR.pst_ret he) fun D σ H ⟨ρ,η,S,s,r,h⟩=>⟨ρ,η,S,s,r,by
 simp only [aP] at h
 refine (PQ.out s r h).mono fun ρ1 H1 x S1 st s1 h1 v hv=> ?_
 exact h1 ρ1 H1 (Step.refl _ _) s1 v hv⟩
theorem adA {ct:Expr} {a b:List Stmt} {cc:E} {ca cb:Cs} (hc:PT X ct (tQ G M W cc)) (ha:PSsT X a (vM G M W ca)) (hb:PSsT X b (vM G M W cb)):PST X (.If ct a b pos) (tC G M W (.ite cc ca cb)):=PST.imp (CwR.pst_if hc ha hb) fun D σ H ⟨ρ,η,S,s,r,h⟩=>⟨ρ,η,S,s,r,by
 simp only [aP] at h
 refine (PQ.out s r h).mono fun ρ1 H1 x S1 st s1 h1=> ?_
 cases x with
 | bl b=>
  refine ⟨b,rfl,?_⟩
  cases b with
  | true=>exact ⟨ρ1,η,S1,s1,r.step st,h1⟩
  | false=>exact ⟨ρ1,η,S1,s1,r.step st,h1⟩
 | _=>exact h1.elim⟩
abbrev Yk (z0 z1 z2 z3:Str) (tk:Nat):Obj:={ cls:=.type "list",data:=.seq #[.str z0 (tk+1),.str z1 (tk+1+1),.str z2 (tk+1+1+1),.str z3 (tk+1+1+1+1)] 0 }
theorem UJ:PSsT X [] (vM G M W .nil):=PSsT.of PSs.aO
theorem aej (g:Good G k X) {i j:Nat} {x m:Str} {p1 p2:Pos} (h2:PSsT X rest (vM G M W cs)) (hi:X.N[i]? =some x:=by rfl) (hx:Loc X.env.scope x:=by first | exact Or.inl rfl | exact Or.inr rfl)
  (hs:swapsWith (.Constant (.str m) j p1) (some (.Name x p2)) pos.line X.env=pure false:=by rfl) (hf:X.fn x=true∨X.env.scope.names.lookup x=some .local:=by first | exact .inl rfl | exact .inr rfl | assumption) :
  PSs X (.Assign [.Name x p2] (.Constant (.str m) j p1) pos::rest) (vM G M W (.cons (.asg (.nm i) (.cst (.str m))) cs)):=(pss_str (i:=i) g.nd hi hx h2 hs hf).imp fun D σ H ⟨ρ,η,S,s,r,h⟩=>by
 simp only [exec,aP,ev,Res.out,aZ] at h
 exact ⟨ρ,_,S,s,r.set i (v:=.str m) (by simp only [VR]),h⟩
theorem afU {ta tb:TE} {r:R2} (hr:IxR X r) (ha:PET X a ta) (hb:PE X b tb) (hs:PlainIx b):PET X (.Subscript a b pos) (tOp r ta tb):=by
 intro pins s σ H Q h0 I h
 exact Subscript_ (thn (ha pins s σ H _ h0 I h) fun v s1 ⟨x,H1,I1,r1,q1⟩=>thn (hb.run pins s1 σ H1 _ I1 q1) fun u s2 ⟨y,H2,I2,r2,q2⟩=>hr a b pins s2 σ H2 x y v u Q I2 r1 r2 q2 (hs _ _))
theorem aaY (g:Good G k X) (ha:PET X a (tE G M W ca)) (hb:PE X b (tE G M W cb)) (hs:PlainIx b):PET X (.Subscript a b pos) (tE G M W (.idx ca cb)):=
 PET.imp (afU (aaz g) ha hb hs) fun σ H Q ⟨ρ,η,S,s,r,h⟩=>⟨ρ,η,S,s,r,(PR.bind h).mono fun ρ1 H1 x S1 bU s1 h1 v hv=>⟨ρ1,η,S1,s1,r.step bU,(PR.bind h1).mono fun ρ2 H2 y S2 st2 s2 h2 w hw=>by
  obtain ⟨z,e,h3⟩:=PR.gY h2
  exact ⟨ρ2,S2,x,y,z,s2,hv.step st2,hw,e,h3⟩⟩⟩
theorem aca {f:F} (h:PET X a (tF G M W f)):PET X a (tE G M W (.inl f)):=
 PET.imp h fun σ H Q ⟨ρ,η,S,s,r,h⟩=>⟨ρ,η,S,s,r,(PR.bind h).mono fun ρ1 H1 o S1 bU s1 h1 p hp n ho _=>(PR.here h1 s1) _ (ho.inl n)⟩
theorem abW {es:List Expr} {cU:Es} (h:PAT X es (tA G M W cU)):PET X (.List es pos) (tF G M W (.lst cU)):=
 PET.imp (pet_lst h) fun σ H Q ⟨ρ,η,S,s,r,h⟩=>⟨ρ,η,S,s,r,(PR.bind h).mono fun ρ1 H1 xs S1 bU s1 h1 vs xO=>by
  split at h1
  ·rename_i hz
   exact ⟨by rw [← xO.length];exact hz,fun p hp=>jD s bU s1 h1 hp fun ρ' gG=>⟨vs,upd_same,au.step gG _ _ xO⟩⟩
  ·exact h1.elim⟩
theorem jX {es:List Expr} {cU:Es} (ha:PET X a (tE G M W ca)) (hr:PAT X es (tA G M W cU)) (hs:starEach (a::es) X.env=(false,eval a X.env)::starEach es X.env:=by rfl):PAT X (a::es) (tA G M W (.cons ca cU)):=
 PAT.imp (pat_cons ha hr hs) fun σ H Q ⟨ρ,η,S,s,r,h⟩=>⟨ρ,η,S,s,r,(PR.bind h).mono fun ρ1 H1 x S1 bU s1 h1 v hv=>⟨ρ1,η,S1,s1,r.step bU,(PR.bind h1).mono fun ρ2 H2 xs S2 st2 s2 h2 vs xO=>(PR.here h2 s2) _ (au.cons (hv.step st2) xO)⟩⟩
theorem ZW:PAT X [] (tA G M W .nil):=fun pos pins s σ H Q _ I q=>gH.run pos pins s σ H Q I q
theorem Tt {y z:Str} {j i:Nat} {c0 c1 cH:Pos} (ha:PE X a (tE G M W ca)) (hyz:(y==z)=false:=by decide)
  (Ru:starEach [.Constant (.str y) j c0,.Constant (.str z) i c1] X.env=[(false,eval (.Constant (.str y) j c0) X.env),(false,eval (.Constant (.str z) i c1) X.env)]:=by rfl)
  (fM:attributeBase a "replace" X.env (eval a X.env)=eval a X.env:=by rfl) (fL:(cH.endLine==pos.line)=true:=by rfl) :
  PET X (.Call (.Attribute a "replace" cH) [.Constant (.str y) j c0,.Constant (.str z) i c1] [] pos) (tE G M W (.Wy ca y z)):=PET.imp (CwR.pet_replC ha hyz Ru fM fL) fun σ H Q ⟨ρ,η,S,s,r,h⟩=>⟨ρ,η,S,s,r,by
 simp only [ev] at h
 refine (PR.bind h).mono fun ρ1 H1 v S1 bU s1 h1 u hu=> ?_
 cases v with
 | str x=>
  simp only [VR] at hu;subst hu
  simp only at h1
  split at h1
  ·rename_i hb
   exact ⟨x,rfl,hb,PR.here h1 s1 _ (by simp only [VR])⟩
  ·exact h1.elim
 | _=>exact h1.elim⟩
theorem Sv {y z0 z1 z2 z3:Str} {j j0 j1 j2 j3:Nat} {c0 d0 d1 d2 d3 lp sp cH:Pos} (ha:PE X a (tE G M W ca)) (hb:PE X b (tE G M W cb)) (hs:PlainIx b)
  (Ru:starEach [.Constant (.str y) j c0,.Subscript (.List [.Constant (.str z0) j0 d0,.Constant (.str z1) j1 d1,.Constant (.str z2) j2 d2,.Constant (.str z3) j3 d3] lp) b sp] X.env=[(false,eval (.Constant (.str y) j c0) X.env),(false,eval (.Subscript (.List [.Constant (.str z0) j0 d0,.Constant (.str z1) j1 d1,.Constant (.str z2) j2 d2,.Constant (.str z3) j3 d3] lp) b sp) X.env)]:=by rfl)
  (fM:attributeBase a "replace" X.env (eval a X.env)=eval a X.env:=by rfl) (fL:(cH.endLine==pos.line)=true:=by rfl) :
  PET X (.Call (.Attribute a "replace" cH) [.Constant (.str y) j c0,.Subscript (.List [.Constant (.str z0) j0 d0,.Constant (.str z1) j1 d1,.Constant (.str z2) j2 d2,.Constant (.str z3) j3 d3] lp) b sp] [] pos) (tE G M W (.replL ca y z0 z1 z2 z3 cb)):=by
 intro pins s σ H Q h0 I ⟨ρ,η,S,s0,r,h⟩
 simp only [ev] at h
 refine PySem.Call_method2 fM Ru fL (wpAny_mono (PySem.wpAny_toks (ha.run pins s σ H (fun v H1=>∃ x ρ1 S1,v=.str x∧bf G ρ1 H1 S1∧ER G ρ1 H1 η σ∧PR G W σ ρ1 H1 ((ev M cb η S1).bind fun w S2=>match w with
   | .int k=>match [z0,z1,z2,z3][k.toNat]? with
    | some z=>if 0≤k∧(y==z)=false∧x.length+(x.length+1)* z.length≤16777216 then .ok (.str (Txt.replace x y z)) S2 else .bad
    | none=>.bad
   | _=>.bad) (okV G Q)) I ⟨ρ,η,S,s0,r,(PR.bind h).mono fun ρ1 H1 v S1 bU s1 h1 u hu=>by
  cases v with
  | str x=>simp only [VR] at hu;exact ⟨x,ρ1,S1,hu,s1,r.step bU,h1⟩
  | _=>exact h1.elim⟩)) (fun v s1 q=> ?_) fun _ _ z=>z.2)
 obtain ⟨hk,v',H1,I1,r1,x,ρ1,S1,e1,sm1,er1,q⟩:=q
 subst e1
 obtain ⟨tx,e2⟩:=r1
 subst e2
 refine ⟨"str",_,PySem.F.plainAttrs_str,PySem.F.slot_str_replace,PySem.F.type_str_replace,typeIs_str _ _ _,(fun _ e=>nomatch e),Calls.callWith_builtin rfl (Calls.evalArgs_plain (Calls.spliced_cons ?_))⟩
 refine Calls.Constant_str (Calls.spliced_cons ?_)
 obtain ⟨hp,g1,dr,tk,os⟩:=s1
 have h1:1≤tk:=Nat.le_trans h0 hk
 refine Subscript_ (wpAny_List_spliced ?_)
 show wpAny _ _ (spliced ((false,eval (.Constant (.str z0) j0 d0) X.env)::backTo lp (starEach [.Constant (.str z1) j1 d1,.Constant (.str z2) j2 d2,.Constant (.str z3) j3 d3] X.env))) _ _ _
 refine Calls.spliced_cons (Calls.Constant_str ?_)
 show wpAny _ _ (spliced ((false,eval (.Constant (.str z1) j1 d1) X.env)::backTo lp (starEach [.Constant (.str z2) j2 d2,.Constant (.str z3) j3 d3] X.env))) _ _ _
 refine Calls.spliced_cons (Calls.Constant_str ?_)
 show wpAny _ _ (spliced ((false,eval (.Constant (.str z2) j2 d2) X.env)::backTo lp (starEach [.Constant (.str z3) j3 d3] X.env))) _ _ _
 refine Calls.spliced_cons (Calls.Constant_str ?_)
 show wpAny _ _ (spliced ((false,eval (.Constant (.str z3) j3 d3) X.env)::backTo lp (starEach [] X.env))) _ _ _
 refine Calls.spliced_cons (Calls.Constant_str (Calls.spliced_nil ⟨show 4≤sizeLine by decide,?_⟩))
 have nP:H1 hp.objs.size=none:=I1.hok.fresh (Nat.le_refl _)
 have J:Inv X pins σ (upd H1 hp.objs.size (.frz (Yk z0 z1 z2 z3 tk) (.lst [.str z0,.str z1,.str z2,.str z3]))) ⟨hp.push (Yk z0 z1 z2 z3 tk),g1,dr,tk+1+1+1+1+1,os⟩:=I1.laid (t':=tk+1+1+1+1+1) (fun b u e=>Heap.get?_push_of_some _ e) (Nat.le_refl _) (by
  exact ⟨Heap.get?_push_size _ rfl,(show 4≤sizeLine by decide),[.str z0 (tk+1),.str z1 (tk+1+1),.str z2 (tk+1+1+1),.str z3 (tk+1+1+1+1)],0,.cons ⟨_,rfl⟩ (.cons ⟨_,rfl⟩ (.cons ⟨_,rfl⟩ (.cons ⟨_,rfl⟩ .nil))),Heap.get?_push_size _ rfl⟩)
 have sm:Same H1 (upd H1 hp.objs.size (.frz (Yk z0 z1 z2 z3 tk) (.lst [.str z0,.str z1,.str z2,.str z3]))):=fK nP
 have hq:=q.step (bu sm)
 refine thn (hb.run pins ⟨hp.push (Yk z0 z1 z2 z3 tk),g1,dr,tk+1+1+1+1+1,os⟩ σ (upd H1 hp.objs.size (.frz (Yk z0 z1 z2 z3 tk) (.lst [.str z0,.str z1,.str z2,.str z3]))) (fun w H2=>∃ k z,w=.int k∧H2 hp.objs.size=some (.frz (Yk z0 z1 z2 z3 tk) (.lst [.str z0,.str z1,.str z2,.str z3]))∧[z0,z1,z2,z3][k.toNat]? =some z∧0≤k∧(y==z)=false∧x.length+(x.length+1)* z.length≤16777216∧Q (.str (Txt.replace x y z)) H2) J ⟨ρ1,η,S1,sm1.same sm,er1.step (bu sm),(PR.bind hq).mono fun ρ2 H2 w S2 st2 s2 h2 u hu=>by
  cases w with
  | int k=>
   simp only [VR] at hu
   simp only at h2
   split at h2
   ·rename_i z ez
    split at h2
    ·rename_i hc
     exact ⟨k,z,hu,st2.fz _ _ _ upd_same,ez,hc.1,hc.2.1,hc.2.2,PR.here h2 s2 _ (by simp only [VR])⟩
    ·exact h2.elim
   ·exact h2.elim
  | _=>exact h2.elim⟩) fun w s2 ⟨w',H2,I2,rw',k,z,ew,hP,hz,hk0,hyz,mZ,hQ⟩=> ?_
 subst ew
 obtain ⟨tk2,ew2⟩:=rw'
 subst ew2
 have hL:s2.heap.IsList hp.objs.size #[.str z0 (tk+1),.str z1 (tk+1+1),.str z2 (tk+1+1+1),.str z3 (tk+1+1+1+1)]:=by
  obtain ⟨h5,_⟩:=I2.hok _ _ hP
  exact ⟨_,h5,rfl,0,rfl⟩
 have hkl:k.toNat<4:=by
  have:=(List.getElem?_eq_some_iff.mp hz).1
  simpa using this
 obtain ⟨tv,hx,hv⟩:∃ tv:Tok,(#[Value.str z0 (tk+1),.str z1 (tk+1+1),.str z2 (tk+1+1+1),.str z3 (tk+1+1+1+1)]:Array Value)[k.toNat]? =some (.str z tv)∧tk<tv:=by
  match hn:k.toNat,hkl,hz with
  | 0,_,hz=>cases hz;exact ⟨_,rfl,by omega⟩
  | 1,_,hz=>cases hz;exact ⟨_,rfl,by omega⟩
  | 2,_,hz=>cases hz;exact ⟨_,rfl,by omega⟩
  | 3,_,hz=>cases hz;exact ⟨_,rfl,by omega⟩
 refine item_listR hL hk0 (by omega) hx (Calls.spliced_nil ?_) (hs _ _)
 exact PySem.SC.replace (by show tk≠0;omega) (Nat.ne_of_gt (Nat.lt_of_le_of_lt (Nat.zero_le _) hv)) (Nat.ne_of_lt hv) hyz mZ fun t' k'=>⟨.str (Txt.replace x y z),H2,I2.tok k',⟨t',rfl⟩,hQ⟩
end
end Oz
namespace Oz
open PySem PySem.Spec PyProof.Rows L2
def HJ (K:PySem.W.Frag) (n:Nat):Sp:=fun vs H Q _=>∃ (a:Addr) (ns:List Int),vs=[.ref a]∧SqL K H a (ns.map V.int)∧ns.length≤n∧∀ H',Q (.bl true) H'
section
variable {P:Program} {w:World} {K:PySem.W.Frag} {mg mb:Str→Option Value} {k n:Nat} {fa a:Addr} {fd:FuncData} {x:Str} {s:Shared} {us:List Value} {ns:List Int}
def ajW (P:Program) (w:World) (fa a:Addr) (s:Shared):Prop:=codeAny (model P w) callerA (.call (.ref fa) ⟨[.ref a],[]⟩) (fun r t=>r=.ok (.ret (.bool true))∧OldK s.heap t.heap∧t.os=s.os∧AllBare t.gens) s
structure Few (K:PySem.W.Frag) (a:Addr) (H:Hp):Prop where
 at_:∀ b,H b=none∨(b=a∧K.lookup a=none∧∃ o xs,H b=some (.frz o (.lst xs)))
theorem Few.ne {H:Hp} (f:Few K a H) {b:Addr} (h:b≠a):H b=none:=(f.at_ b).elim id fun z=>absurd z.1 h
theorem Xo (kin:K.In s.heap) (hN:s.heap.Ns mainGlobals mg) (hB:s.heap.Ns builtinsNs mb) (hbb:∀ x:Str,x≠"__name__"→mb x=bootBuiltins x) (Yc:s.heap.NoLimit) (acz:s.gens= #[])
  (Ny:s.heap.get? a=some { cls:=.type "list",data:=.seq us.toArray }) (hr:Room k callerA)
  (F:∀ base:Heap,K.In base→base.Ns mainGlobals mg→qu P w K mg base k fa fd [x] (HJ K n)) (VP:∀ (s:Shared) (u:Value),BindsTo s fd ⟨[u],[]⟩ [(x,u)])
  {H:Hp} (few:Few K a H) (hS:SqL K H a (ns.map V.int)) (mZ:ns.length≤n) (hok:HOk P w H s.heap):ajW P w fa a s:=by
 have alx:∀ {b:Addr} {o:Obj} {es:Array DictEntry} {ep:Nat},s.heap.get? b=some o→o.data=.dict es ep→H b=none:=fun {b o es ep} e d=>few.ne fun hb=>by
  rw [hb,Ny] at e
  cases e
  cases d
 have ns2:∀ {b:Addr} {m:Str→Option Value},s.heap.Ns b m→(hidT s.heap H).Ns b m:=fun {b m} ⟨o,es,ep,e,d,r⟩=>⟨o,es,ep,hidT_get e (alx e d),d,r⟩
 have aiQ:K.In (hidT s.heap H):=fun b o e=>hidT_get (kin b o e) ((few.at_ b).elim id fun ⟨hb,hk,_⟩=>by
  rw [hb,hk] at e
  cases e)
 have md:Mod K mg (hidT s.heap H):=by
  obtain ⟨mc,l1,l2⟩:=Yc
  exact ⟨aiQ,ns2 hN,⟨mb,ns2 hB,hbb⟩,⟨mc,ns2 l1,l2⟩⟩
 have ev:Env0 P w K mg (hidT s.heap H) callerA [] s H:=
  { frames:=rfl,mod:=md,bs:=fun b o e=>of_hidT e,bsz:=Nat.le_of_eq (hidT_size _ _),funs:=trivial,frf:=fun b hb=>absurd (show b∈([]:List Addr) from hb) (by simp),hok:=hok,bare:=.of_eq acz }
 have main:=(F _ aiQ (ns2 hN)).run callerA [] s H ⟨[.ref a],[]⟩ [.ref a] [.ref a] (fun v _=>v=.bl true) (fun _ _ _=>False) hr rfl ev (VP s (.ref a)) (.cons rfl .nil) ⟨a,ns,rfl,hS,mZ,fun _=>rfl⟩
 refine codeAny_mono main fun r t h=> ?_
 match r,h with
 | .error e,⟨_,_,_,_,_,_,_,_,_,_,_,_,z⟩=>exact z.elim
 | .ok (.ret u),⟨v,H',os,bare,un,hok',r',q⟩=>
  cases (show v=.bl true from q)
  cases (show u=Value.bool true from r')
  refine ⟨rfl,OldK.of_keep fun b o e=> ?_,os,bare⟩
  have nf:b∉frs []:=fun z=>absurd (show b∈([]:List Addr) from z) (by simp)
  rcases few.at_ b with z | ⟨_,_,ob,xs,z⟩
  ·exact un.keep b o e z nf (by simp)
  ·obtain ⟨e1,_⟩:=hok b _ z
   obtain ⟨e2,_⟩:=hok' b _ (un.frzs b ob _ z)
   exact e2.trans (e1.symm.trans e)
theorem abG (kin:K.In s.heap) (hN:s.heap.Ns mainGlobals mg) (hB:s.heap.Ns builtinsNs mb) (hbb:∀ x:Str,x≠"__name__"→mb x=bootBuiltins x) (Yc:s.heap.NoLimit) (acz:s.gens= #[])
  (Ny:s.heap.get? a=some { cls:=.type "list",data:=.seq us.toArray }) (V7:IntsAre us ns) (hn:n≤sizeLine) (mZ:ns.length≤n) (hr:Room k callerA)
  (F:∀ base:Heap,K.In base→base.Ns mainGlobals mg→qu P w K mg base k fa fd [x] (HJ K n)) (VP:∀ (s:Shared) (u:Value),BindsTo s fd ⟨[u],[]⟩ [(x,u)]):ajW P w fa a s:=by
 have rel:=vals_ints V7
 have small:ns.length≤sizeLine:=Nat.le_trans mZ hn
 by_cases hk:K.lookup a=none
 ·have here:(fun b=>if b=a then some (HO.frz { cls:=.type "list",data:=.seq us.toArray } (.lst (ns.map V.int))) else none:Hp) a=some (.frz { cls:=.type "list",data:=.seq us.toArray } (.lst (ns.map V.int))):=if_pos rfl
  refine Xo kin hN hB hbb Yc acz Ny hr F VP (H:=fun b=>if b=a then some (.frz { cls:=.type "list",data:=.seq us.toArray } (.lst (ns.map V.int))) else none) ⟨fun b=> ?_⟩ (.inl (.inr ⟨_,here⟩)) mZ fun b u z=> ?_
  ·by_cases hb:b=a
   ·exact .inr ⟨hb,hk,_,_,if_pos hb⟩
   ·exact .inl (if_neg hb)
  ·by_cases hb:b=a
   ·subst hb
    cases here.symm.trans z
    exact ⟨Ny,by rw [List.length_map];exact small,us,_,rel,Ny⟩
   ·cases (if_neg hb).symm.trans z
 ·obtain ⟨o,ho⟩:=Option.ne_none_iff_exists'.mp hk
  have eo:=(kin a o ho).symm.trans Ny
  cases eo
  exact Xo kin hN hB hbb Yc acz Ny hr F VP (H:=fun _=>none) ⟨fun _=>.inl rfl⟩ (.inr ⟨_,us.toArray,_,ho,rfl,rfl,rfl,by rw [List.size_toArray,V7.length];exact small,by simpa using rel⟩) mZ fun b u z=>by cases (show (none:Option HO)=some u from z)
end
theorem agh {l:PySem.W.OpenLaw} {n k:Nat} {q:Program} {ajJ:List Str} {XP:(Str→Option Value)→Heap→Prop} {YP:World→Heap→Prop} {d:DefRec} {K:Params→PySem.W.Frag} {x:Str}
  (hn:l.most=some n) (hn2:n≤sizeLine) (hdf:d.params.defaults=[]) (hr:Room k callerA) (hY:∀ (w:World) (h:Heap),YP w h→(K w.params).In h)
  (F:∀ (w:World) (mg:Str→Option Value) (fa:Addr) (h:Heap),(K w.params).In h→h.Ns mainGlobals mg→mg d.name=some (.ref fa)→
   ∃ fd:FuncData,(∀ (s:Shared) (u:Value),BindsTo s fd ⟨[u],[]⟩ [(x,u)])∧∀ base:Heap,(K w.params).In base→base.Ns mainGlobals mg→qu l.prog w (K w.params) mg base k fa fd [x] (HJ (K w.params) n)) :
  PySem.W.WalkO q ajJ XP YP l.row.toRowW d [] (fun f vs=>PySem.call f vs):=by
 refine Att.attach_call hn hdf fun w s0 s1 mg mb fa o pm cd xJ a vs ns GG Y ho hd Ba hmg Ny V7 mZ hg=> ?_
 obtain ⟨fd,hb,hF⟩:=F w mg fa _ (hY w _ Y) GG.T.g hmg
 exact abG (hY w _ Y) GG.T.g GG.T.b GG.T.builtins GG.T.nolimit hg Ny V7 hn2 mZ hr hF hb
section
variable {G:bB} {P:Program} {w:World} {K:PySem.W.Frag} {mg:Str→Option Value} {base:Heap}
def tCut (K:PySem.W.Frag):TS:=tAsg (tSl (rSlL K) (tVar 0) tNoPart (tPart (L2.tC (.int 63)))) (gName 0)
theorem ai1 {xs:List V} (h:xs.length≤63):cutV xs none (some 63)=xs:=by
 unfold cutV
 rw [HT.sIx_none,show HT.sIx xs.length xs.length (some (63:Int))=min 63 xs.length from HT.sIx_nat xs.length xs.length 63,Nat.min_eq_right h]
 simp
theorem agx {k:Nat} {f:Addr} {x bF:Str} {params:Arguments} {body:List Stmt} {scope:Scope} {dvs:List V} {kws:List (Str × V)} {fd:FuncData} {N:List Str} {p:Str} {M:aF} {rest:Cs} {nn:Nat} (F:FunD K x bF params body scope dvs kws f fd) (Sc:FnScope N [p] scope) (LC:N.length=nn+1)
  (pO:∀ (cI:Value) (A:Around) (outer:List Env) (s:Shared) (H:Hp) (E:XK),Room k (A.deeper (envOfC bF scope s.heap.objs.size f cI))→A.guards=some []→PSs (cxOf (L2.CX P w) P w K mg base N bF scope f cI A outer s H E) body (tSeq (tCut K) (vM G M (fun cls d _ H'=>E cls d H') rest)))
  (Uz:∀ ns:List Int,ns.length≤63→∃ T,exec M rest (some (.lst (ns.map .int))::List.replicate nn none) []=.ret (.val (.bl true)) T):qu P w K mg base (k+1) f fd [p] (HJ K 63):=by
 obtain ⟨oc,od,dV,kV,xJ,pm,an,cI,ct,Xx,rfl,lk,Ba,_,_⟩:=F.ex
 refine ⟨fun vs H Q E h=>by obtain ⟨a,ns,rfl,_⟩:=h;rfl,fun A outer s H args us vs Q E hr hgd e0 hb r Cp=> ?_⟩
 obtain ⟨a,ns,rfl,hS,mZ,hQ⟩:=Cp
 have ul:K.In s.heap:=e0.mod.kin.keeps fun b o e=>(e0.bs b o e).1
 have Gq:s.heap.NoLimit:=e0.mod.nolimit.keeps fun b o e=>(e0.bs b o e).1
 refine codeAny_call_function hr.depth (ul _ _ lk) rfl Sc.co Sc.gen rfl (PySem.W.codeRec_of ul Ba) (hb _ _ _ _ (wpAny_newFunctionEnv_cells Sc.kind (fun ⟨n,v⟩ hy=>(Sc.par n (List.of_mem_zip hy).1).imp id fun z=>⟨z,PySem.W.cellsFrom_some _ _ _ (.inl z)⟩) fun env he s1 x=> ?_))
 subst he
 refine ⟨Gq.keeps x.toInCall.keep,codeAny_func ?_⟩
 have xj:Inv (cxOf (L2.CX P w) P w K mg base N bF scope f cI A outer s H E) [] (L2.start N [.ref a]) H s1:=inv_start Sc hr.hd e0 rfl r x
 obtain ⟨T,hT⟩:=Uz ns mZ
 have U7:=(pO cI A outer s H E (hr.deeper _) hgd).run [] s1 (L2.start N [.ref a]) H { nx:=fun _ H'=>Q .non H',rt:=Q } xj (by
  have l1:(ns.map V.int).length≤63:=by rw [List.length_map];exact mZ
  refine ⟨.ref a,rfl,63,rfl,a,ns.map V.int,rfl,hS,fun q hq=> ?_⟩
  rw [ai1 l1]
  have hv:VR G [] (upd H q (.lst (ns.map V.int))) (.lst (ns.map .int)) (.ref q):=by
   simp only [VR]
   refine ⟨q,_,rfl,⟨.inl upd_same,by simp⟩,au.of_get (by simp) fun i y v e1 e2=> ?_⟩
   rw [List.getElem?_map] at e1 e2
   cases e3:ns[i]? with
   | none=>rw [e3] at e1;cases e1
   | some z=>rw [e3] at e1 e2;cases e1;cases e2;simp only [VR]
  have afA:(L2.start N [.ref a]).length=N.length:=by unfold L2.start;simp;omega
  refine ⟨[],some (.lst (ns.map .int))::List.replicate nn none,[],⟨rfl,List.nodup_nil,fun r o a e=>by simp at e⟩,⟨?_,fun i y e=> ?_⟩,?_⟩
  ·simp only [List.length_cons,List.length_replicate,List.length_set,afA,LC]
  ·cases i with
   | zero=>
    cases e
    exact ⟨.ref q,by rw [List.getElem?_set_self (by rw [afA];omega)],hv⟩
   | succ i=>
    rw [List.getElem?_cons_succ,List.getElem?_replicate] at e
    split at e<;>simp at e
  ·rw [hT]
   intro ρ' H' st s' v hv
   simp only [VR] at hv
   subst hv
   exact hQ H')
 refine wpAny_mono U7 (fun fl s' hs=> ?_) fun _ _ z=>z
 cases fl with
 | ret u=>obtain ⟨v,σ',H',J,rv,z⟩:=hs;exact ⟨v,H',J.os,J.bare,J.base,J.hok,rv,z⟩
 | next=>obtain ⟨σ',H',J,z⟩:=hs;exact ⟨.non,H',J.os,J.bare,J.base,J.hok,rfl,z⟩
 | brk=>obtain ⟨_,_,_,z⟩:=hs;exact z.elim
 | cont=>obtain ⟨_,_,_,z⟩:=hs;exact z.elim
end
section
variable {G:bB} {P:Program} {w:World} {mg:Str→Option Value} {base:Heap}
theorem Xf {k:Nat} {f:Addr} {bF:Str} {scope:Scope} {N ps:List Str} {cI:Value} {A:Around} {outer:List Env} {s:Shared} {H:Hp} {E:XK} (Sc:FnScope N ps scope) (hr:Room k (A.deeper (envOfC bF scope s.heap.objs.size f cI))) (hg:A.guards=some []) (hge:G.er=none):Good G k (cxOf (L2.CX P w) P w G.K mg base N bF scope f cI A outer s H E):=⟨rfl,Sc.nd,⟨hr.dp,hr.un⟩,hg,fun e h=>by rw [hge] at h;cases h⟩
theorem V9 {k:Nat} {f:Addr} {bF:Str} {scope:Scope} {N:List Str} {cI:Value} {A:Around} {outer:List Env} {s:Shared} {H:Hp} {E:XK} (hr:Room k (A.deeper (envOfC bF scope s.heap.objs.size f cI))) (hge:G.er=none):bT G (cxOf (L2.CX P w) P w G.K mg base N bF scope f cI A outer s H E):=⟨rfl,hr.hd,hge⟩
theorem aiW (hge:G.er=none) {k:Nat} {f:Addr} {x bF q:Str} {params:Arguments} {body:List Stmt} {scope:Scope} {dvs:List V} {kws:List (Str × V)} {fd:FuncData} {N ps:List Str} {M M':aF} {d:jU} (F:FunD G.K x bF params body scope dvs kws f fd) (Sc:FnScope N ps scope)
  (hM:∀ xs S,M.cal q xs S=gK M' d xs S) (Rw:d.np=ps.length) (LC:d.nn=N.length)
  (pO:∀ (cI:Value) (A:Around) (outer:List Env) (s:Shared) (H:Hp) (E:XK) [bT G (cxOf (L2.CX P w) P w G.K mg base N bF scope f cI A outer s H E)],Good G k (cxOf (L2.CX P w) P w G.K mg base N bF scope f cI A outer s H E)→
   PassesOwn (model (cxOf (L2.CX P w) P w G.K mg base N bF scope f cI A outer s H E).prog (cxOf (L2.CX P w) P w G.K mg base N bF scope f cI A outer s H E).w) (cxOf (L2.CX P w) P w G.K mg base N bF scope f cI A outer s H E).A (cxOf (L2.CX P w) P w G.K mg base N bF scope f cI A outer s H E).env (cxOf (L2.CX P w) P w G.K mg base N bF scope f cI A outer s H E).xe→
   Takes (cxOf (L2.CX P w) P w G.K mg base N bF scope f cI A outer s H E) (fun cls d _ H'=>E cls d H')→PSs (cxOf (L2.CX P w) P w G.K mg base N bF scope f cI A outer s H E) body (vM G M' (fun cls d _ H'=>E cls d H') d.body)) :
  qu P w G.K mg base (k+1) f fd ps (spI G M d.np q):=
 akL F Sc hM Rw LC fun cI A outer s H E hr hg=>haveI:=V9 (G:=G) (P:=P) (w:=w) (mg:=mg) (base:=base) (N:=N) (outer:=outer) (H:=H) (E:=E) hr hge;pO cI A outer s H E (Xf Sc hr hg hge) (L2.passes_of rfl) (L2.takes_of rfl rfl rfl rfl)
theorem acw (hge:G.er=none) {k:Nat} {f:Addr} {x bF:Str} {params:Arguments} {body:List Stmt} {scope:Scope} {dvs:List V} {kws:List (Str × V)} {fd:FuncData} {N:List Str} {p:Str} {M:aF} {rest:Cs} {nn:Nat} (F:FunD G.K x bF params body scope dvs kws f fd) (Sc:FnScope N [p] scope) (LC:N.length=nn+1)
  (pO:∀ (cI:Value) (A:Around) (outer:List Env) (s:Shared) (H:Hp) (E:XK) [bT G (cxOf (L2.CX P w) P w G.K mg base N bF scope f cI A outer s H E)],Good G k (cxOf (L2.CX P w) P w G.K mg base N bF scope f cI A outer s H E)→
   PassesOwn (model (cxOf (L2.CX P w) P w G.K mg base N bF scope f cI A outer s H E).prog (cxOf (L2.CX P w) P w G.K mg base N bF scope f cI A outer s H E).w) (cxOf (L2.CX P w) P w G.K mg base N bF scope f cI A outer s H E).A (cxOf (L2.CX P w) P w G.K mg base N bF scope f cI A outer s H E).env (cxOf (L2.CX P w) P w G.K mg base N bF scope f cI A outer s H E).xe→
   Takes (cxOf (L2.CX P w) P w G.K mg base N bF scope f cI A outer s H E) (fun cls d _ H'=>E cls d H')→PSs (cxOf (L2.CX P w) P w G.K mg base N bF scope f cI A outer s H E) body (tSeq (tCut G.K) (vM G M (fun cls d _ H'=>E cls d H') rest)))
  (Uz:∀ ns:List Int,ns.length≤63→∃ T,exec M rest (some (.lst (ns.map .int))::List.replicate nn none) []=.ret (.val (.bl true)) T):qu P w G.K mg base (k+1) f fd [p] (HJ G.K 63):=
 agx (G:=G) F Sc LC (fun cI A outer s H E hr hg=>haveI:=V9 (G:=G) (P:=P) (w:=w) (mg:=mg) (base:=base) (N:=N) (outer:=outer) (H:=H) (E:=E) hr hge;pO cI A outer s H E (Xf Sc hr hg hge) (L2.passes_of rfl) (L2.takes_of rfl rfl rfl rfl)) Uz
theorem afY {K:PySem.W.Frag} {k n:Nat} {f:Addr} {fd:FuncData} {ps:List Str} {M:aF} {q:Str} (hn:n=ps.length) (hM:∀ xs S,M.cal q xs S=.bad):qu P w K mg base k f fd ps (spI G M n q):=
 ⟨fun vs H Q E h=>h.1.trans hn,fun A outer s H args us vs Q E hr hgd e0 hb r Cp=>by
  obtain ⟨_,ρ,S,xs,_,_,hp⟩:=Cp
  rw [hM] at hp
  exact hp.elim⟩
end
section
variable {K:PySem.W.Frag} {x bF:Str} {params:Arguments} {body:List Stmt} {scope:Scope} {f:Addr} {fd:FuncData} {ps:List Str} {kws:List (Str × V)}
theorem PB {dV:Value} (h:DflV K dV []):dV=.none:=h.elim (fun z=>z.2) fun z=>absurd rfl z.1
theorem aeK (F:FunD K x bF params body scope [] kws f fd) (h:∀ (kV xJ pm:Value) (an:Option Addr) (cI ct:Value) (us:List Value),us.length=ps.length→bindArgs (PySem.W.fnOf x bF params body scope .none kV xJ pm an cI ct) ⟨us,[]⟩=pure (ps.zip us)):Binds K fd ps []:=by
 obtain ⟨oc,od,dV,kV,xJ,pm,an,cI,ct,Xx,rfl,lk,Ba,hD,hK⟩:=F.ex
 cases PB hD
 exact .all (h kV xJ pm an cI ct)
theorem al9 (F:FunD K x bF params body scope [] kws f fd) (h:∀ (kV xJ pm:Value) (an:Option Addr) (cI ct:Value) (u:Value),bindArgs (PySem.W.fnOf x bF params body scope .none kV xJ pm an cI ct) ⟨[u],[]⟩=pure (ps.zip [u])) (s:Shared) (u:Value):BindsTo s fd ⟨[u],[]⟩ (ps.zip [u]):=by
 obtain ⟨oc,od,dV,kV,xJ,pm,an,cI,ct,Xx,rfl,lk,Ba,hD,hK⟩:=F.ex
 cases PB hD
 exact .of_eq (h kV xJ pm an cI ct u)
theorem yx {st:Stmt} {oc:Value} {od an:Option Addr} {Xx:Array (Option Value)} {kV xJ pm cI ct:Value} (l:K.lookup f=some ⟨oc,od,.func (PySem.W.fnOf x bF (defArgs st) (defBody st) (defScope st) .none kV xJ pm an cI ct),Xx⟩)
  (c:PySem.W.codeIn K cI bF=true) (k:PySem.W.keepIn K (.ref f)=true) (hk:KwdV K kV kws):FunD K x bF (defArgs st) (defBody st) (defScope st) [] kws f (PySem.W.fnOf x bF (defArgs st) (defBody st) (defScope st) .none kV xJ pm an cI ct):=⟨⟨oc,od,.none,kV,xJ,pm,an,cI,ct,Xx,rfl,l,c,.inl ⟨rfl,rfl⟩,hk⟩,k⟩
end
end Oz
namespace Oz
open PySem L2
mutual
def Vl.nr:Vl→Bool
 | .tup xs | .lst xs | .dct _ xs | .obj _ _ xs=>dH xs
 | .ref _ | .err _ _ _=>false
 | _=>true
def dH:List Vl→Bool
 | []=>true
 | x::xs=>Vl.nr x&&dH xs
end
def Ob.nr:Ob→Bool
 | .lst xs | .dct _ xs | .ins _ _ xs | .Ac _ xs=>dH xs
mutual
theorem Uq (n:Nat):∀ v:Vl,v.nr=true→v.lim n=true
 | .non,_ | .bl _,_ | .int _,_ | .str _,_=>by simp only [Vl.lim]
 | .tup xs,h | .lst xs,h | .dct _ xs,h | .obj _ _ xs,h=>by simp only [Vl.nr] at h;simp only [Vl.lim];exact mG n xs h
 | .ref _,h | .err _ _ _,h=>by simp [Vl.nr] at h
theorem mG (n:Nat):∀ v:List Vl,dH v=true→aV n v=true
 | [],_=>by simp only [aV]
 | x::xs,h=>by
  simp only [dH,Bool.and_eq_true] at h
  simp only [aV,Uq n x h.1,mG n xs h.2,Bool.and_self]
end
mutual
theorem VH (f:Nat→Option Vl):∀ v:Vl,v.nr=true→v.jW f=some v
 | .non,_ | .bl _,_ | .int _,_ | .str _,_=>by simp only [Vl.jW]
 | .tup xs,h | .lst xs,h | .dct _ xs,h | .obj _ _ xs,h=>by simp only [Vl.nr] at h;simp only [Vl.jW,Gr f xs h,Option.map_some]
 | .ref _,h | .err _ _ _,h=>by simp [Vl.nr] at h
theorem Gr (f:Nat→Option Vl):∀ v:List Vl,dH v=true→iV f v=some v
 | [],_=>by simp only [iV]
 | x::xs,h=>by
  simp only [dH,Bool.and_eq_true] at h
  simp only [iV,VH f x h.1,Gr f xs h.2,Option.bind_some,Option.map_some]
end
mutual
theorem zV (f:Nat→Vl):∀ v:Vl,v.nr=true→v.dN f=v
 | .non,_ | .bl _,_ | .int _,_ | .str _,_=>by simp only [Vl.dN]
 | .tup xs,h | .lst xs,h | .dct _ xs,h | .obj _ _ xs,h=>by simp only [Vl.nr] at h;simp only [Vl.dN,Ek f xs h]
 | .ref _,h | .err _ _ _,h=>by simp [Vl.nr] at h
theorem Ek (f:Nat→Vl):∀ v:List Vl,dH v=true→jn f v=v
 | [],_=>by simp only [jn]
 | x::xs,h=>by
  simp only [dH,Bool.and_eq_true] at h
  simp only [jn,zV f x h.1,Ek f xs h.2]
end
theorem tY:∀ {xs:List Vl},(∀ x∈xs,x.nr=true)→dH xs=true
 | [],_=>by simp only [dH]
 | x::xs,h=>by
  simp only [dH,h x (List.mem_cons_self ..),tY fun y hy=>h y (List.mem_cons_of_mem _ hy),Bool.and_self]
theorem Us:∀ {xs:List Vl},dH xs=true→∀ x∈xs,x.nr=true
 | [],_,_,h=>by simp at h
 | x::xs,h,y,hy=>by
  simp only [dH,Bool.and_eq_true] at h
  rcases List.mem_cons.mp hy with rfl | hy
  ·exact h.1
  ·exact Us h.2 y hy
theorem oG {xs ys:List Vl} (h:dH xs=true) (k:dH ys=true):dH (xs++ys)=true:=tY fun x hx=>(List.mem_append.mp hx).elim (Us h x) (Us k x)
theorem lH (zs:List Str):dH (zs.map Vl.str)=true:=tY fun x hx=>by
 obtain ⟨z,_,rfl⟩:=List.mem_map.mp hx
 simp only [Vl.nr]
theorem dW (zs:List Int):dH (zs.map Vl.int)=true:=tY fun x hx=>by
 obtain ⟨z,_,rfl⟩:=List.mem_map.mp hx
 simp only [Vl.nr]
theorem zj (k:Nat) (S:Hs) {v:Vl} (h:v.nr=true):rF k S v=v:=by
 cases k with
 | zero=>simp only [rF];exact zV _ v h
 | succ k=>simp only [rF];exact zV _ v h
def NR (S:Hs):Prop:=∀ o∈S,o.nr=true
theorem NR.nil:NR []:=fun o h=>by simp at h
theorem NR.app {S T:Hs} (h:NR S) (k:NR T):NR (S++T):=fun o ho=>(List.mem_append.mp ho).elim (h o) (k o)
theorem NR.one {S:Hs} (h:NR S) {o:Ob} (k:o.nr=true):NR (S++[o]):=h.app fun p hp=>by simp at hp;rw [hp];exact k
theorem NR.cl {S:Hs} (h:NR S) (n:Nat):S.all (Ob.lim n)=true:=List.all_eq_true.mpr fun o ho=>by
 have:=h o ho
 cases o<;>exact mG n _ this
theorem NR.take {S:Hs} (h:NR S) (n:Nat):NR (S.take n):=fun o ho=>h o (List.mem_of_mem_take ho)
theorem NR.set {S:Hs} (h:NR S) (r:Nat) {o:Ob} (k:o.nr=true):NR (S.set r o):=fun p hp=>by
 rcases List.mem_or_eq_of_mem_set hp with z | z
 ·exact h p z
 ·rw [z];exact k
theorem NR.at {S:Hs} (h:NR S) {r:Nat} {o:Ob} (e:S[r]? =some o):o.nr=true:=h o (List.mem_of_getElem? e)
theorem ad1 {n:Nat} {T:Hs} {v:Vl} (h:v.nr=true):lO n T v=.ok (.val v) (T.take n):=by
 cases v with
 | ref r=>simp [Vl.nr] at h
 | _=>simp only [lO,VH _ _ h]
theorem HR {n:Nat} {T:Hs} {v:Vl} (hT:NR (T.take n)) (h:v.nr=true):Dz n (.val v) T=.ok (.val v) (T.take n):=by
 unfold Dz
 rw [if_pos (hT.cl n)]
 exact ad1 h
theorem Vy {o:Ob} (f:Nat→Option Vl) (h:o.nr=true):o.jW f=some o:=by
 cases o<;>simp only [Ob.nr] at h<;>simp only [Ob.jW,Gr f _ h,Option.map_some]
theorem abU {n r:Nat} {T:Hs} {o:Ob} (hT:NR (T.take n)) (hr:n≤r) (e:T[r]? =some o) (h:o.nr=true):Dz n (.val (.ref r)) T=.ok (.frs o) (T.take n):=by
 unfold Dz
 rw [if_pos (hT.cl n)]
 simp only [lO]
 rw [if_neg (by omega),e]
 simp only [Vy _ h]
theorem aaA {n:Nat} {T:Hs} {o:Ob} (hn:n≤T.length) (hT:NR (T.take n)) (h:o.nr=true):Dz n (.frs o) T=.ok (.frs o) (T.take n):=by
 unfold Dz
 rw [if_pos (hT.cl n)]
 simp only [lO]
 rw [if_neg (by omega)]
 simp only [List.getElem?_concat_length,Vy _ h,List.take_append_of_le_length hn]
theorem dh {M:aF} {d:jU} {xs:List Vl} {S T:Hs} {v:Vl} (hl:xs.length=d.np) (hb:exec M d.body (xs.map some++List.replicate (d.nn - xs.length) none) S=.ret (.val v) (S++T)) (hS:NR S) (hv:v.nr=true) (h2:d.two=false:=by rfl):gK M d xs S=.ok (.val v) S:=by
 unfold gK
 rw [if_pos hl,hb]
 simp only [h2,Bool.false_eq_true,if_false]
 rw [HR (by simpa using hS) hv]
 simp
theorem uX {M:aF} {d:jU} {xs:List Vl} {S T:Hs} {o:Ob} {r:Nat} (hl:xs.length=d.np) (hb:exec M d.body (xs.map some++List.replicate (d.nn - xs.length) none) S=.ret (.val (.ref (S.length+r))) (S++T)) (hS:NR S) (ho:T[r]? =some o) (hv:o.nr=true) (h2:d.two=false:=by rfl):gK M d xs S=.ok (.frs o) S:=by
 unfold gK
 rw [if_pos hl,hb]
 simp only [h2,Bool.false_eq_true,if_false]
 rw [abU (o:=o) (by simpa using hS) (by omega) (by rw [List.getElem?_append_right (by omega)];simpa using ho) hv]
 simp
theorem acy {M:aF} {d:jU} {xs:List Vl} {S T:Hs} {o:Ob} (hl:xs.length=d.np) (hb:exec M d.body (xs.map some++List.replicate (d.nn - xs.length) none) S=.ret (.frs o) (S++T)) (hS:NR S) (hv:o.nr=true) (h2:d.two=false:=by rfl):gK M d xs S=.ok (.frs o) S:=by
 unfold gK
 rw [if_pos hl,hb]
 simp only [h2,Bool.false_eq_true,if_false]
 rw [aaA (by simp) (by simpa using hS) hv]
 simp
theorem XS {S:Hs} {o:Ob} (h:NR S) (ho:o.nr=true):Cq S (.ok (.val .non) (S++[o]))=.ok o S:=by
 unfold Cq
 simp only [List.getLast?_append,List.getLast?_singleton,Option.some_or,List.length_append,List.length_cons,List.length_nil,List.dropLast_concat]
 rw [if_pos ⟨trivial,(h.one ho).cl _⟩]
theorem mK (S:Hs) (xs:List Vl):ir .len S (.lst xs)=some (.int xs.length):=rfl
theorem Vk (S:Hs) (xs:List Vl):ir .len S (.tup xs)=some (.int xs.length):=rfl
theorem iT {α:Type} (S:List α) (a b:α):(S++[a]).set S.length b=S++[b]:=by simp
theorem eZ (i j:Int):binop .Add (.int i) (.int j)=some (.int (i+j)):=rfl
theorem Ra (i j:Int):binop .Sub (.int i) (.int j)=some (.int (i - j)):=rfl
theorem jy {i j:Int} (h:0<j):binop .Mod (.int i) (.int j)=some (.int (i%j)):=if_pos h
theorem Uc {i j:Int} (h:0<j) (k:j<1073741824):binop .FloorDiv (.int i) (.int j)=some (.int (i / j)):=if_pos ⟨h,k⟩
theorem GP {i j:Int} (h: -(2 ^ 64)<j) (k:j<2 ^ 64):binop .Mult (.int i) (.int j)=some (.int (i* j)):=if_pos (by unfold Wx;rw [decide_eq_true h,decide_eq_true k];simp)
theorem qL {i j:Int} (h: -(2 ^ 64)<i) (k:i<2 ^ 64):binop .Mult (.int i) (.int j)=some (.int (i* j)):=if_pos (by unfold Wx;rw [decide_eq_true h,decide_eq_true k];simp)
theorem aid {i j:Int} (h:0≤j) (k:j≤1000000) (l:i.natAbs<2 ^ 64):binop .Pow (.int i) (.int j)=some (.int (i ^ j.toNat)):=if_pos ⟨h,k,l⟩
theorem eU {i j:Str} (h:i.length+j.length≤sizeLine):binop .Add (.str i) (.str j)=some (.str (i++j)):=if_pos h
theorem jT {S:Hs} {xs:List Vl} {x:Vl} {i:Nat} (h:xs[i]? =some x):dM S (.lst xs) (.int i)=some x:=by
 unfold dM
 exact atI_nat h
theorem ix_tup {S:Hs} {xs:List Vl} {x:Vl} {i:Nat} (h:xs[i]? =some x):dM S (.tup xs) (.int i)=some x:=by
 unfold dM
 exact atI_nat h
theorem ix_str {S:Hs} {z:Str} {c:Nat} {i:Nat} (hz:z.length≤1000000) (h:z.cps.toList[i]? =some c):dM S (.str z) (.int i)=some (.str ⟨#[c]⟩):=by
 have e:dM S (.str z) (.int i)=if z.length≤sizeLine then (atI z.cps.toList (i:Int)).map fun c=>.str ⟨#[c]⟩ else none:=rfl
 rw [e,if_pos (Nat.le_trans hz (by decide)),atI_nat h];rfl
theorem ju (S:Hs) (xs:List Vl):pZ (S++[.lst xs]) (.ref S.length)=some S.length:=by
 unfold pZ
 simp only [List.getElem?_concat_length]
theorem kh {xs:List Vl} {y:Vl} (h:xs.length<1000000):KJ .append xs [y]=some (.non,xs++[y]):=if_pos (Nat.lt_of_lt_of_le h (by decide))
theorem rP {n i:Nat} {x:Vl} (h:(jg 0 n)[i]? =some x):i<n∧x=.int i:=by
 obtain ⟨h1,h2⟩:=Mz h
 exact ⟨h1,by rw [h2,Int.zero_add]⟩
theorem Vi {body:Sg→Hs→Out} {t:Tg} {lk:List Lk} (I:Nat→Sg→Hs→Prop):∀ (xs:List Vl) (k:Nat) (η:Sg) (S:Hs),I k η S→(∀ i η S,I i η S→cP lk S)→
  (∀ i x η S,xs[i]? =some x→I (k+i) η S→∃ η1,aZ t x η=some η1∧∃ η2 S2,(body η1 S=.nx η2 S2∨body η1 S=.cnt η2 S2)∧I (k+i+1) η2 S2)→
  ∃ η' S',forL body t lk xs η S=.nx η' S'∧I (k+xs.length) η' S'
 | [],k,η,S,h0,hl,_=>⟨η,S,by unfold forL;rw [if_pos (hl k η S h0)],h0⟩
 | x::xs,k,η,S,h0,hl,hs=>by
  obtain ⟨η1,e1,η2,S2,e2,h2⟩:=hs 0 x η S rfl h0
  obtain ⟨η',S',e3,h3⟩:=Vi I xs (k+1) η2 S2 h2 hl fun i y η S ey hI=>by
   have:=hs (i+1) y η S (by simpa using ey) (by rw [show k+(i+1)=k+1+i by omega];exact hI)
   rw [show k+(i+1)+1=k+1+i+1 by omega] at this
   exact this
  refine ⟨η',S',?_,by rw [List.length_cons,show k+(xs.length+1)=k+1+xs.length by omega];exact h3⟩
  unfold forL
  rw [if_pos (hl k η S h0),e1]
  rcases e2 with e2 | e2<;>simp only [e2]<;>exact e3
theorem ie {body:Sg→Hs→Out} {t:Tg} {lk:List Lk} {xs:List Vl} {η:Sg} {S:Hs} (I:Nat→Sg→Hs→Prop) (h0:I 0 η S) (hl:∀ i η S,I i η S→cP lk S)
  (hs:∀ i x η S,xs[i]? =some x→I i η S→∃ η1,aZ t x η=some η1∧∃ η2 S2,(body η1 S=.nx η2 S2∨body η1 S=.cnt η2 S2)∧I (i+1) η2 S2):∃ η' S',forL body t lk xs η S=.nx η' S'∧I xs.length η' S':=by
 obtain ⟨η',S',h,k⟩:=Vi I xs 0 η S h0 hl fun i x η S e h=>by rw [Nat.zero_add] at h ⊢;exact hs i x η S e h
 rw [Nat.zero_add] at k
 exact ⟨η',S',h,k⟩
theorem mO {M:aF} {e:E} {η:Sg} {S S1:Hs} {k:Nat} (h:ev M e η S=.ok (.int k) S1) (hk:k≤1000000):pC M (.xY e) η S=.ok ([],jg 0 k) S1:=by
 simp only [pC,h,Res.bind]
 rw [if_pos ⟨by omega,by omega⟩,Int.toNat_natCast]
theorem aU (S:Hs):cP [] S:=fun p h=>by simp at h
theorem uP {step:Vl→Hs→Res (Option Vl)} {lk:List Lk} {S:Hs} (f:Vl→Option Vl) (hl:cP lk S):∀ (xs aQ:List Vl),aQ.length+xs.length≤1000000→dH aQ=true→(∀ x∈xs,∀ y,f x=some y→y.nr=true)→
  (∀ x∈xs,∀ aQ:List Vl,dH aQ=true→step x (S++[.lst aQ])=.ok (f x) (S++[.lst aQ]))→gJ step lk xs aQ S=.ok (aQ++xs.filterMap f) S
 | [],aQ,_,_,_,_=>by unfold gJ;rw [if_pos hl];simp
 | x::xs,aQ,hz,ha,hy,hs=>by
  have Zg:aQ.length<sizeLine:=by
   have:(1000000:Nat)<sizeLine:=by decide
   rw [List.length_cons] at hz;omega
  unfold gJ
  rw [if_pos hl,hs x (List.mem_cons_self ..) aQ ha]
  simp only
  rw [if_pos ⟨trivial,Zg⟩]
  rw [List.length_cons] at hz
  cases e:f x with
  | none=>
   simp only
   rw [uP f hl xs aQ (by omega) ha (fun y h=>hy y (List.mem_cons_of_mem _ h)) fun y h=>hs y (List.mem_cons_of_mem _ h)]
   simp [e]
  | some y=>
   have ny:=hy x (List.mem_cons_self ..) y e
   simp only
   rw [if_pos (Uq _ _ ny),uP f hl xs (aQ++[y]) (by simp;omega) (oG ha (by simp only [dH,ny,Bool.and_self])) (fun y h=>hy y (List.mem_cons_of_mem _ h)) fun y h=>hs y (List.mem_cons_of_mem _ h)]
   simp [e]
mutual
def Vl.pd:Vl→Bool
 | .non | .bl _=>true
 | .int i=>decide (i.natAbs<10 ^ 6)
 | .str z=>PyData.strOk z
 | .tup xs | .lst xs=>Il xs
 | _=>false
def Il:List Vl→Bool
 | []=>true
 | x::xs=>Vl.pd x&&Il xs
end
mutual
def Vl.wt:Vl→Nat
 | .int _=>20
 | .str z=>z.length
 | .tup xs | .lst xs=>Zj xs
 | _=>0
def Zj:List Vl→Nat
 | []=>0
 | x::xs=>Vl.wt x+1+Zj xs
end
mutual
def Vl.dep:Vl→Nat
 | .tup xs | .lst xs=>pP xs+1
 | _=>0
def pP:List Vl→Nat
 | []=>0
 | x::xs=>max (Vl.dep x) (pP xs)
end
mutual
theorem Ws:∀ v:Vl,v.pd=true→v.nr=true
 | .non,_ | .bl _,_ | .int _,_ | .str _,_=>by simp only [Vl.nr]
 | .tup xs,h | .lst xs,h=>by simp only [Vl.pd] at h;simp only [Vl.nr];exact Om xs h
 | .dct _ xs,h | .obj _ _ xs,h | .err _ _ xs,h | .ref _,h=>by simp [Vl.pd] at h
theorem Om:∀ v:List Vl,Il v=true→dH v=true
 | [],_=>by simp only [dH]
 | x::xs,h=>by
  simp only [Il,Bool.and_eq_true] at h
  simp only [dH,Ws x h.1,Om xs h.2,Bool.and_self]
end
theorem Ah {i:Int} (h:i.natAbs<10 ^ 6):i.natAbs.log2<20:=by
 by_cases z:i.natAbs=0
 ·rw [z];decide
 ·exact (Nat.log2_lt z).mpr (Nat.lt_trans h (by decide))
structure DOk (v:Vl) (d:PyData):Prop where
 can:d.canLay0=true
 short:d.intsShort 13=true
 Jl:d.showable=true
 w:d.weight≤v.wt
 dp:d.depth≤v.dep
structure alb (v:List Vl) (d:List PyData):Prop where
 can:PyData.canLayAll0 d=true
 short:PyData.intsShortAll 13 d=true
 Jl:PyData.showableAll d=true
 w:PyData.weightAll d≤Zj v
 dp:PyData.depthAll d≤pP v
mutual
theorem Dd:∀ v:Vl,v.pd=true→∃ d,v.toD=some d∧DOk v d
 | .non,_=>⟨.none,by simp only [Vl.toD],by constructor<;>simp [PyData.canLay0,PyData.intsShort,PyData.showable,PyData.weight,PyData.depth]⟩
 | .bl b,_=>⟨.bool b,by simp only [Vl.toD],by constructor<;>simp [PyData.canLay0,PyData.intsShort,PyData.showable,PyData.weight,PyData.depth]⟩
 | .int i,h=>by
  simp only [Vl.pd,decide_eq_true_eq] at h
  have l:=Ah h
  refine ⟨.int i,by simp only [Vl.toD],?_⟩
  constructor
  ·simp [PyData.canLay0]
  ·have e:=int_text_length_le10 (a:=i) (k:=6) (by decide) h
   have e2:(PyData.shown (.int i)).length=(toString i).length:=by
    simp only [PyData.shown]
    exact ofString_length _
   simp only [PyData.intsShort,decide_eq_true_eq,e2];omega
  ·simp [PyData.showable];omega
  ·simp only [PyData.weight,Vl.wt];split<;>omega
  ·simp [PyData.depth]
 | .str z,h=>by
  simp only [Vl.pd] at h
  refine ⟨.str z,by simp only [Vl.toD],?_⟩
  constructor
  ·simpa [PyData.canLay0] using h
  ·simp [PyData.intsShort]
  ·simp [PyData.showable]
  ·simp only [PyData.weight,Vl.wt];exact Nat.le_refl _
  ·simp [PyData.depth]
 | .tup xs,h=>by
  simp only [Vl.pd] at h
  obtain ⟨ds,e,k⟩:=Fo xs h
  refine ⟨.tuple ds,by simp only [Vl.toD,e,Option.map_some],?_⟩
  constructor
  ·simpa [PyData.canLay0] using k.can
  ·simpa [PyData.intsShort] using k.short
  ·simpa [PyData.showable] using k.Jl
  ·simpa [PyData.weight,Vl.wt] using k.w
  ·simpa [PyData.depth,Vl.dep] using k.dp
 | .lst xs,h=>by
  simp only [Vl.pd] at h
  obtain ⟨ds,e,k⟩:=Fo xs h
  refine ⟨.list ds,by simp only [Vl.toD,e,Option.map_some],?_⟩
  constructor
  ·simpa [PyData.canLay0] using k.can
  ·simpa [PyData.intsShort] using k.short
  ·simpa [PyData.showable] using k.Jl
  ·simpa [PyData.weight,Vl.wt] using k.w
  ·simpa [PyData.depth,Vl.dep] using k.dp
 | .dct _ xs,h | .obj _ _ xs,h | .err _ _ xs,h | .ref _,h=>by simp [Vl.pd] at h
theorem Fo:∀ v:List Vl,Il v=true→∃ d,uU v=some d∧alb v d
 | [],_=>⟨[],by simp only [uU],by constructor<;>simp [PyData.canLayAll0,PyData.intsShortAll,PyData.showableAll,PyData.weightAll,PyData.depthAll]⟩
 | x::xs,h=>by
  simp only [Il,Bool.and_eq_true] at h
  obtain ⟨d,e,k⟩:=Dd x h.1
  obtain ⟨ds,es,ks⟩:=Fo xs h.2
  refine ⟨d::ds,by simp only [uU,e,es],?_⟩
  constructor
  ·simp only [PyData.canLayAll0,k.can,ks.can,Bool.and_self]
  ·simp only [PyData.intsShortAll,k.short,ks.short,Bool.and_self]
  ·simp only [PyData.showableAll,k.Jl,ks.Jl,Bool.and_self]
  ·simp only [PyData.weightAll,Zj];have:=k.w;have:=ks.w;omega
  ·simp only [PyData.depthAll,pP];have:=k.dp;have:=ks.dp;omega
end
mutual
theorem QK:∀ d:PyData,d.canLay0=true→PyData.eqv d d=true
 | .none,_=>by simp [PyData.eqv]
 | .bool _,_ | .int _,_ | .str _,_=>by simp [PyData.eqv]
 | .list xs,h | .tuple xs,h=>by simp only [PyData.eqv];exact Bs xs (by simpa [PyData.canLay0] using h)
 | .dict _,h=>by simp [PyData.canLay0] at h
theorem Bs:∀ d:List PyData,PyData.canLayAll0 d=true→PyData.eqvAll d d=true
 | [],_=>by simp [PyData.eqvAll]
 | x::xs,h=>by
  simp only [PyData.canLayAll0,Bool.and_eq_true] at h
  simp only [PyData.eqvAll,QK x h.1,Bs xs h.2,Bool.and_self]
end
theorem u5 (S:Hs) {v:Vl} (h:v.pd=true):∃ d,dataOf S v=some d∧DOk v d:=by
 obtain ⟨d,e,k⟩:=Dd v h
 exact ⟨d,by unfold dataOf;rw [zj _ _ (Ws v h)];exact e,k⟩
theorem DOk.shaped {v:Vl} {d:PyData} (k:DOk v d) (hd:v.dep≤60):SeqAt.shaped d=true:=by
 unfold SeqAt.shaped
 rw [k.can,Bool.true_and]
 exact decide_eq_true (by have:=k.dp;omega)
theorem Qn (S:Hs) {v:Vl} (h:v.pd=true) (hd:v.dep≤60):oW S v v=some true:=by
 obtain ⟨d,e,k⟩:=u5 S h
 unfold oW
 rw [e]
 simp only
 rw [if_pos ⟨k.shaped hd,k.shaped hd⟩,QK d k.can]
theorem Q4 (S:Hs) {v:Vl} (h:v.pd=true):aX S v=none:=by cases v<;>first | rfl | (simp [Vl.pd] at h)
theorem Mw {S:Hs} {x:Vl} (y:Vl) (h:aX S x=none):vO S x y=none:=by unfold vO;rw [h]
theorem Yx (S:Hs) {v:Vl} (h:v.pd=true) (hd:v.dep≤60):zq S v v=some true:=by
 unfold zq
 have h0:=Mw v (Q4 S h)
 cases v<;>simp only [YX,decide_true]<;>(rw [h0];exact Qn S h hd)
theorem acv (S:Hs) {v:Vl} (h:v.pd=true) (hd:v.dep≤60) (hw:v.wt≤2 ^ 20):∃ z,ir .repr S v=some (.str z):=by
 obtain ⟨d,e,k⟩:=u5 S h
 refine ⟨d.shown,?_⟩
 unfold ir
 simp only [e]
 have hl:d.layable0=true:=by
  unfold PyData.layable0
  rw [k.can]
  simp only [Bool.true_and,Bool.and_eq_true,decide_eq_true_eq]
  have:=k.dp;have:=k.w
  omega
 rw [if_pos ⟨k.Jl,Nat.le_trans (PyProof.Rows.shown_le13 hl k.short) (by decide),k.can,by have:=k.dp;omega⟩]
theorem Eo:∀ {xs:List Vl},(∀ x∈xs,x.pd=true)→Il xs=true
 | [],_=>by simp only [Il]
 | x::xs,h=>by simp only [Il,h x (List.mem_cons_self ..),Eo fun y hy=>h y (List.mem_cons_of_mem _ hy),Bool.and_self]
theorem yw {m:Nat}:∀ {xs:List Vl},(∀ x∈xs,x.dep≤m)→pP xs≤m
 | [],_=>by simp only [pP];omega
 | x::xs,h=>by simp only [pP];have:=h x (List.mem_cons_self ..);have:=yw fun y hy=>h y (List.mem_cons_of_mem _ hy);omega
theorem NQ {m:Nat}:∀ {xs:List Vl},(∀ x∈xs,x.wt≤m)→Zj xs≤xs.length* (m+1)
 | [],_=>by simp [Zj]
 | x::xs,h=>by
  simp only [Zj,List.length_cons]
  have:=h x (List.mem_cons_self ..)
  have:=NQ fun y hy=>h y (List.mem_cons_of_mem _ hy)
  rw [Nat.add_mul]
  omega
section
variable {M:aF} {c:C} {cs a b:Cs} {e:E} {f:F} {t:Tg} {s:Src} {η η1 η2:Sg} {S S1 S2:Hs} {x:Vl} {o:Ob} {r:Out} {lk:List Lk} {xs:List Vl}
theorem aq (h:aP M c η S=.nx η1 S1) (k:exec M cs η1 S1=r):exec M (.cons c cs) η S=r:=by simp only [exec,h,k]
theorem bA {v:Rv} (h:aP M c η S=.ret v S1):exec M (.cons c cs) η S=.ret v S1:=by simp only [exec,h]
theorem aM:exec M .nil η S=.nx η S:=by simp only [exec]
theorem bz (x:Vl) (S1:Hs) (h:ev M e η S=.ok x S1) (hb:aZ t x η=some η1):aP M (.asg t e) η S=.nx η1 S1:=by simp only [aP,h,Res.out,hb]
theorem cQ (S1:Hs) (h:ev M e η S=.ok (.bl true) S1) (k:exec M a η S1=r):aP M (.ite e a b) η S=r:=by simp only [aP,h,Res.out,k]
theorem bD (S1:Hs) (h:ev M e η S=.ok (.bl false) S1) (k:exec M b η S1=r):aP M (.ite e a b) η S=r:=by simp only [aP,h,Res.out,k]
theorem jJ (lk:List Lk) (xs:List Vl) (S1:Hs) (h:pC M s η S=.ok (lk,xs) S1) (k:forL (fun η1 S2=>exec M b η1 S2) t lk xs η S1=r):aP M (.for_ t s b) η S=r:=by simp only [aP,h,Res.out,k]
theorem dJ (x:Vl) (S1:Hs) (h:ev M e η S=.ok x S1):aP M (.ret e) η S=.ret (.val x) S1:=by simp only [aP,h,Res.out]
theorem agb (o:Ob) (S1:Hs) (h:d9 M f η S=.ok o S1):aP M (.Y0 f) η S=.ret (.frs o) S1:=by simp only [aP,h,Res.out]
theorem M9 (x:Vl) (S1:Hs) (h:ev M e η S=.ok x S1):aP M (.ex e) η S=.nx η S1:=by simp only [aP,h,Res.out]
end
section
variable {M:aF} {own:List Nat} {iJ test:E} {t:Tg} {s:Src} {η:Sg} {S S1:Hs} {lk:List Lk} {xs:List Vl}
theorem Nv (lk:List Lk) (xs:List Vl) (f:Vl→Option Vl) (h:pC M s η S=.ok (lk,xs) S1) (hl:cP lk S1) (hz:xs.length≤1000000) (hn:∀ x∈xs,∀ y,f x=some y→y.nr=true)
  (hs:∀ x∈xs,∀ aQ:List Vl,dH aQ=true→∃ η1 y,aZ t x (bR η own)=some η1∧ev M iJ η1 (S1++[.lst aQ])=.ok y (S1++[.lst aQ])∧f x=some y):d9 M (.comp own iJ t s .nil) η S=.ok (.lst (xs.filterMap f)) S1:=by
 simp only [d9,h,Res.bind]
 rw [uP f hl xs [] (by rw [List.length_nil];omega) (by simp only [dH]) hn fun x hx aQ ha=>by
  obtain ⟨η1,y,e1,e2,e3⟩:=hs x hx aQ ha
  simp only [e1,dB,if_true,e2,e3,Res.bind]]
 rw [List.nil_append]
theorem aci (lk:List Lk) (xs:List Vl) (f:Vl→Option Vl) (h:pC M s η S=.ok (lk,xs) S1) (hl:cP lk S1) (hz:xs.length≤1000000) (hn:∀ x∈xs,∀ y,f x=some y→y.nr=true)
  (hs:∀ x∈xs,∀ aQ:List Vl,dH aQ=true→∃ η1,aZ t x (bR η own)=some η1∧((ev M test η1 (S1++[.lst aQ])=.ok (.bl false) (S1++[.lst aQ])∧f x=none)∨(ev M test η1 (S1++[.lst aQ])=.ok (.bl true) (S1++[.lst aQ])∧∃ y,ev M iJ η1 (S1++[.lst aQ])=.ok y (S1++[.lst aQ])∧f x=some y))) :
  d9 M (.comp own iJ t s (.cons test .nil)) η S=.ok (.lst (xs.filterMap f)) S1:=by
 simp only [d9,h,Res.bind]
 rw [uP f hl xs [] (by rw [List.length_nil];omega) (by simp only [dH]) hn fun x hx aQ ha=>by
  obtain ⟨η1,e1,⟨e2,e3⟩ | ⟨e2,y,e3,e4⟩⟩:=hs x hx aQ ha
  ·simp only [e1,dB,e2,e3,Res.bind,Bool.false_eq_true,if_false]
  ·simp only [e1,dB,e2,e3,e4,Res.bind,if_true]]
 rw [List.nil_append]
theorem iG {e:E} {v:Vl} (h:ev M e η S=.ok v S1) (hv:lZ S1 v=some (lk,xs)):pC M (.sq e) η S=.ok (lk,xs) S1:=by simp only [pC,h,Res.bind,gY,hv]
theorem yo {e:E} {z:Str} (h:ev M e η S=.ok (.str z) S1):pC M (.chars e) η S=.ok ([],iI z) S1:=by simp only [pC,h,Res.bind]
end
section
variable {M:aF} {a b c e:E} {es:Es} {f:F} {op:Operator} {co p q:CmpOp} {η:Sg} {S S1 S2 S3:Hs} {x y z v:Vl} {d:Bool} {o:Ob} {xs ys:List Vl} {i:Nat} {g m cl:Str} {lo hi:Oe} {l h:Option Int} {r:Rv} {n:Nat}
theorem v_var (hx:η[i]? =some (some x)):ev M (.var i) η S=.ok x S:=by simp only [ev,hx]
theorem aj:ev M (.cst v) η S=.ok v S:=by simp only [ev]
theorem aW (ha:ev M a η S=.ok x S1) (hb:ev M b η S1=.ok y S2) (ho:binop op x y=some z):ev M (.bin op a b) η S=.ok z S2:=by simp only [ev,ha,hb,Res.bind,gY,ho]
theorem aK (ha:ev M a η S=.ok x S1) (hb:ev M b η S1=.ok y S2) (ho:cmpop co S2 x y=some d):ev M (.cmp co a b) η S=.ok (.bl d) S2:=by simp only [ev,ha,hb,Res.bind,gY,ho]
theorem du (ha:ev M a η S=.ok x S1) (hb:ev M b η S1=.ok y S2) (ho:dM S2 x y=some z):ev M (.idx a b) η S=.ok z S2:=by simp only [ev,ha,hb,Res.bind,gY,ho]
theorem qK:YT M .none η S=.ok none S:=by simp only [YT]
theorem qH {j:Int} (ha:ev M a η S=.ok (.int j) S1):YT M (.some a) η S=.ok (some j) S1:=by simp only [YT,ha,Res.bind]
theorem BK (ha:ev M a η S=.ok x S1) (hl:YT M lo η S1=.ok l S2) (hh:YT M hi η S2=.ok h S3) (ho:Dy x l h=some z):ev M (.Cz a lo hi) η S=.ok z S3:=by simp only [ev,ha,hl,hh,Res.bind,gY,ho]
theorem az:evs M .nil η S=.ok [] S:=by simp only [evs]
theorem aa (ha:ev M a η S=.ok x S1) (hs:evs M es η S1=.ok xs S2):evs M (.cons a es) η S=.ok (x::xs) S2:=by simp only [evs,ha,hs,Res.bind]
theorem iK (hs:evs M es η S=.ok xs S1) (hz:xs.length≤1000000):ev M (.tup es) η S=.ok (.tup xs) S1:=by
 have:xs.length≤sizeLine:=Nat.le_trans hz (by decide)
 simp only [ev,hs,Res.bind,if_pos this]
theorem dw (hf:d9 M f η S=.ok o S1):ev M (.inl f) η S=.ok o.inl S1:=by simp only [ev,hf,Res.bind]
theorem m9 (hf:d9 M f η S=.ok o S1):ev M (.CG f) η S=.ok (.ref S1.length) (S1++[o]):=by simp only [ev,hf,Res.bind]
theorem bJ (hs:evs M es η S=.ok xs S1) (hc:M.cal m xs S1=.ok r S2):ev M (.call m es) η S=.ok r.v S2:=by simp only [ev,hs,Res.bind,qj,hc]
theorem aab (ha:ev M a η S=.ok x S1) (hm:lF S1 x cl m=true) (hs:evs M es η S1=.ok xs S2) (hc:M.cal (dot cl m) (x::xs) S2=.ok r S3):ev M (.Zi cl m a es) η S=.ok r.v S3:=by simp only [ev,ha,hm,hs,Res.bind,qj,hc,if_true]
theorem dG {u:B1} (ha:ev M a η S=.ok x S1) (ho:ir u S1 x=some z):ev M (.b1 u a) η S=.ok z S1:=by simp only [ev,ha,Res.bind,gY,ho]
theorem jR (ha:ev M a η S=.ok (.bl d) S1):ev M (.pY a) η S=.ok (.bl (!d)) S1:=by simp only [ev,ha,Res.bind]
theorem lW (hc:ev M c η S=.ok (.bl true) S1) (ha:ev M a η S1=.ok x S2):ev M (.ite c a b) η S=.ok x S2:=by simp only [ev,hc,Res.bind,ha]
theorem rM (hc:ev M c η S=.ok (.bl false) S1) (ha:ev M b η S1=.ok x S2):ev M (.ite c a b) η S=.ok x S2:=by simp only [ev,hc,Res.bind,ha]
theorem pB (ha:ev M a η S=.ok (.bl true) S1) (hb:ev M b η S1=.ok x S2):ev M (.band a b) η S=.ok x S2:=by simp only [ev,ha,hb,Res.bind]
theorem wG (ha:ev M a η S=.ok (.bl false) S1):ev M (.band a b) η S=.ok (.bl false) S1:=by simp only [ev,ha,Res.bind]
theorem t8 (ha:ev M a η S=.ok (.bl false) S1) (hb:ev M b η S1=.ok x S2):ev M (.bor a b) η S=.ok x S2:=by simp only [ev,ha,hb,Res.bind]
theorem DK {ns:List Str} (ha:ev M a η S=.ok x S1) (hi:lJ S1 x=some (cl,ns,xs)) (ho:cD ns xs m=some z):ev M (.fld a m) η S=.ok z S1:=by simp only [ev,ha,Res.bind,gY,hi,ho]
theorem xN {s:Str} (ha:ev M a η S=.ok (.str s) S1) (hb:ev M b η S1=.ok y S2) (ho:zu .join S2 s y=some z):ev M (.tm .join a b) η S=.ok z S2:=by simp only [ev,ha,hb,Res.bind,gY,ho]
theorem Bt {u:Mm} {k:Nat} (ha:ev M a η S=.ok x S1) (hl:pZ S1 x=some k) (hs:evs M es η S1=.ok xs S2) (hk:S2[k]? =some (.lst ys)) {zs:List Vl} (ho:KJ u ys xs=some (v,zs)):ev M (.mut u a es) η S=.ok v (S2.set k (.lst zs)):=by simp only [ev,ha,hl,hs,Res.bind,hk,ho]
theorem ae3 (ha:ev M a η S=.ok x S1) (ho:aX S1 x=none):ev M (.isD a) η S=.ok (.bl false) S1:=by simp only [ev,ha,Res.bind,ho,Option.isSome_none]
theorem afs {ng:Bool} (ha:ev M a η S=.ok x S1) (hb:ev M b η S1=.ok y S2) (hm:lF S2 x cl "__eq__"=true) (hy:eqY S2 cl y=true) (hc:M.cal (dot cl "__eq__") [x,y] S2=.ok (.val (.bl d)) S3):ev M (.oeq cl ng a b) η S=.ok (.bl (if ng then !d else d)) S3:=by
 simp only [ev,ha,hb,hm,hy,Res.bind,qj,hc,Bool.and_self,if_true,Rr,Rv.v]
theorem lL (hs:evs M es η S=.ok xs S1) (hz:xs.length≤1000000):d9 M (.lst es) η S=.ok (.lst xs) S1:=by
 have:xs.length≤sizeLine:=Nat.le_trans hz (by decide)
 simp only [d9,hs,Res.bind,if_pos this]
theorem ajr (ha:ev M a η S=.ok x S1) (hb:ev M b η S1=.ok y S2) (hx:bV S2 x=some xs) (hy:bV S2 y=some ys) (hz:xs.length+ys.length≤1000000):d9 M (.cat a b) η S=.ok (.lst (xs++ys)) S2:=by
 have:xs.length+ys.length≤sizeLine:=Nat.le_trans hz (by decide)
 simp only [d9,ha,hb,Res.bind,hx,hy,if_pos this]
theorem ae0 (ha:ev M a η S=.ok x S1) (hl:YT M lo η S1=.ok l S2) (hh:YT M hi η S2=.ok h S3) (hx:bV S3 x=some xs):d9 M (.slc a lo hi) η S=.ok (.lst (tH xs l h)) S3:=by simp only [d9,ha,hl,hh,Res.bind,hx]
theorem ajl (ha:ev M a η S=.ok x S1) (hx:cV S1 x=some xs):d9 M (.cpy a) η S=.ok (.lst xs) S1:=by simp only [d9,ha,Res.bind,hx]
end
end Oz
namespace Oz
open PySem L2 PyProof.Rows PySem.Spec
section
variable {G:bB} {ρ:List Addr} {H:Hp} {S:Hs}
theorem PL:∀ {xs:List Vl} {zs:List (Str × Vl)},U8 xs=some zs→xs=zs.map prV
 | [],zs,e=>by simp only [U8,Option.some.injEq] at e;subst e;rfl
 | x::xs,zs,e=>by
  unfold U8 at e
  split at e
  ·rename_i h;cases h
  ·rename_i z y xs' h
   injection h with h1 h2
   subst h1 h2
   obtain ⟨l,e1,rfl⟩:=Option.map_eq_some_iff.mp e
   rw [PL e1];rfl
  ·cases e
def Tri (G:bB) (ρ:List Addr) (H:Hp) (h:Heap) (e:(Str × Vl) × V × Value):Prop:=VR G ρ H (prV e.1) e.2.1∧RelV e.2.1 e.2.2∧Fg h e.2.2 e.1.1
theorem aaU {X:Cx} {pins:List (Addr × Obj)} {σ:L2.St} {s:Shared} (hK:X.K=G.K) (I:Inv X pins σ H s):∀ (zs:List (Str × Vl)) (vs:List V) (us:List Value),au G ρ H (zs.map prV) vs→Vals vs us→
  ∃ L:List ((Str × Vl) × V × Value),L.map (·.1)=zs∧L.map (·.2.1)=vs∧L.map (·.2.2)=us∧∀ e∈L,Tri G ρ H s.heap e
 | [],vs,us,h,r=>by
  simp only [List.map_nil,au] at h
  subst h
  cases r
  exact ⟨[],rfl,rfl,rfl,fun e he=>by cases he⟩
 | z::zs,vs,us,h,r=>by
  simp only [List.map_cons,au] at h
  obtain ⟨v,r',rfl,h1,h2⟩:=h
  cases r with
  | cons rv rr=>
   rename_i u us
   obtain ⟨L,e1,e2,e3,hL⟩:=aaU hK I zs r' us h2 rr
   refine ⟨(z,v,u)::L,by simp [e1],by simp [e2],by simp [e3],fun e he=> ?_⟩
   rcases List.mem_cons.mp he with he | he
   ·subst he
    refine ⟨h1,rv,?_⟩
    have h1':=h1
    unfold prV at h1
    simp only [VR] at h1
    obtain ⟨a,ws,rfl,hT,hw⟩:=h1
    simp only [au,VR] at hw
    obtain ⟨v1,r1,rfl,rfl,v2,r2,rfl,hv2,rfl⟩:=hw
    cases rv
    obtain ⟨its,rvs,⟨o,ho,hc,n,hd⟩,_⟩:=I.tuple (a:=a) (by rw [hK];exact hT.sq)
    obtain ⟨u1,u2,rfl,⟨t,rfl⟩,_⟩:=vals2 rvs
    exact ⟨a,o,n,t,u2,rfl,ho,hc,hd⟩
   ·exact hL e he
theorem Px {h:Heap}:∀ {L:List ((Str × Vl) × V × Value)},(∀ e∈L,Tri G ρ H h e)→au G ρ H ((L.map (·.1)).map prV) (L.map (·.2.1))∧Vals (L.map (·.2.1)) (L.map (·.2.2))
 | [],_=>⟨au.nil,.nil⟩
 | e::L,hL=>by
  obtain ⟨h1,h2⟩:=Px (L:=L) fun x hx=>hL x (List.mem_cons_of_mem _ hx)
  obtain ⟨a,b,c⟩:=hL e List.mem_cons_self
  exact ⟨au.cons a h1,.cons b h2⟩
def ajG (G:bB):List V→Hp→VK→Prop:=fun vs H Q=>∃ ρ S a v xs,vs=[v]∧bf G ρ H S∧VR G ρ H a v∧Ak S a=some xs∧∀ p ws,H p=none→au G ρ H xs ws→Q (.ref p) (upd H p (.lst ws))
theorem aev {X:Cx} (hK:X.K=G.K):CallR X (.builtin "sorted") (ajG G):=by
 intro pins s σ H vs us Q I r ⟨ρ,S,a,v,xs,ev,s0,hv,e,q⟩
 subst ev
 unfold Ak at e
 split at e
 ·rename_i zs ez
  split at e
  ·rename_i hc
   cases e
   obtain ⟨h64,nd⟩:=hc
   obtain ⟨ys,es,ep⟩:=Option.bind_eq_some_iff.mp ez
   have ey:=PL ep
   subst ey
   obtain ⟨l,ws,rfl,hsq,hws⟩:=uR s0 hv es
   rw [Vals.ref1 r]
   have qP:∃ its:List Value,Vals ws its∧(s.heap.IsList l its.toArray∨IsTup s.heap l its.toArray)∧ws.length≤sizeLine:=by
    rcases hsq with hq | hq
    ·obtain ⟨its,rv,pl,hz⟩:=I.list (by rw [hK];exact hq)
     exact ⟨its,rv,.inl pl.isList,hz⟩
    ·obtain ⟨its,rv,pl,hz⟩:=I.tuple (by rw [hK];exact hq)
     exact ⟨its,rv,.inr pl,hz⟩
   obtain ⟨its,rv,hl,hz⟩:=qP
   obtain ⟨L,e1,e2,e3,hL⟩:=aaU hK I zs ws its hws rv
   have key:∀ e∈L,di s.heap e.2.2=e.1.1:=fun e he=>(hL e he).2.2.tx
   have ln:its.length=zs.length:=by rw [← e3,← e1,List.length_map,List.length_map]
   have ndL:(L.map fun e=>e.1.1).Nodup:=by
    have:(L.map fun e=>e.1.1)=zs.map (·.1):=by rw [← e1,List.map_map];rfl
    rw [this];exact nd
   have inL:∀ u∈its,∃ e∈L,e.2.2=u:=fun u hu=>by rw [← e3] at hu;exact List.mem_map.mp hu
   have tin:∀ u∈its,di s.heap u∈zs.map (·.1):=fun u hu=>by
    obtain ⟨e,he,eu⟩:=inL u hu
    rw [← eu,key e he,← e1]
    exact List.mem_map.mpr ⟨e.1,List.mem_map.mpr ⟨e,he,rfl⟩,rfl⟩
   have Uh:∀ u∈its,∀ w∈its,di s.heap u=di s.heap w→u=w:=fun u hu w hw h=>by
    obtain ⟨e,he,eu⟩:=inL u hu
    obtain ⟨f,hf,ew⟩:=inL w hw
    rw [← eu,← ew,key e he,key f hf] at h
    rw [← eu,← ew,NP (f:=fun e:(Str × Vl) × V × Value=>e.1.1) ndL e he f hf h]
   refine Y4 (rkS (zs.map (·.1))) hl (by omega) (fun u hu=> ?_) Uh (fun u hu w hw=>afi nd (tin u hu) (tin w hw)) fun out h1 h2=> ?_
   ·obtain ⟨e,he,eu⟩:=inL u hu
    exact ⟨e.1.1,eu ▸ (hL e he).2.2⟩
   ·-- the order that comes
    have pw:out.toList.Pairwise fun u w=>De (di s.heap u) (di s.heap w):=by
     refine List.Pairwise.imp_of_mem (fun {u w} hu hw h=> ?_) h2
     have hu':=h1.mem_iff.mp hu
     have hw':=h1.mem_iff.mp hw
     have q:=afi nd (tin w hw') (tin u hu')
     rw [vG]
     intro c
     rw [decide_eq_true c] at q
     have:=of_decide_eq_true q.symm
     omega
    have ndi:(its.map (di s.heap)).Nodup:=by
     have:its.map (di s.heap)=zs.map (·.1):=by
      rw [← e3,← e1,List.map_map,List.map_map]
      exact List.map_congr_left fun e he=>key e he
     rw [this];exact nd
    have eo:out.toList=sortBy (di s.heap) its:=uE ndi h1 pw
    have ek:(fun e:(Str × Vl) × V × Value=>di s.heap e.2.2)=fun e=>di s.heap e.2.2:=rfl
    -- the same of the triples
    have es1:∀ (M:List ((Str × Vl) × V × Value)),(∀ e∈M,e∈L)→sortBy (di s.heap) (M.map (·.2.2))=(sortBy (fun e=>e.1.1) M).map (·.2.2):=fun M hM=>by
     rw [j6 (fun e:(Str × Vl) × V × Value=>di s.heap e.2.2) (·.2.2) (di s.heap) (fun _=>rfl)]
     congr 1
     induction M with
     | nil=>rfl
     | cons e M ih=>
      have ih:=ih fun x hx=>hM x (List.mem_cons_of_mem _ hx)
      simp only [sortBy]
      rw [ih]
      have mm:∀ x∈sortBy (fun e:(Str × Vl) × V × Value=>e.1.1) M,x∈L:=fun x hx=>hM x (List.mem_cons_of_mem _ ((gW _ M).mem_iff.mp hx))
      have he:=key e (hM e List.mem_cons_self)
      generalize sortBy (fun e:(Str × Vl) × V × Value=>e.1.1) M=N at mm
      clear ih hM
      induction N with
      | nil=>rfl
      | cons x N ih2=>
       have hx:=key x (mm x List.mem_cons_self)
       have ih3:=ih2 fun y hy=>mm y (List.mem_cons_of_mem _ hy)
       simp only [sS,he,hx,ih3]
    have eo2:out.toList=(sortBy (fun e=>e.1.1) L).map (·.2.2):=by rw [eo,← e3];exact es1 L fun _ h=>h
    have eP:Rf zs=(sortBy (fun e=>e.1.1) L).map (·.1):=by
     rw [Gz,← e1]
     exact j6 (fun e:(Str × Vl) × V × Value=>e.1.1) (·.1) (·.1) (fun _=>rfl) L
    obtain ⟨b1,b2⟩:=Px (L:=sortBy (fun e:(Str × Vl) × V × Value=>e.1.1) L) fun e he=>hL e ((gW _ L).mem_iff.mp he)
    rw [← eP] at b1
    rw [← eo2] at b2
    obtain ⟨epc,he'⟩:=PyProof.Rows.sortedAll_at s.heap its out
    have mZ:((sortBy (fun e:(Str × Vl) × V × Value=>e.1.1) L).map (·.2.1)).length≤sizeLine:=by
     rw [List.length_map,(gW _ L).length_eq,← List.length_map (f:=fun e:(Str × Vl) × V × Value=>e.2.1),e2];exact hz
    exact ⟨.ref _,upd H (s.heap.objs.size+1) (.lst ((sortBy (fun e:(Str × Vl) × V × Value=>e.1.1) L).map (·.2.1))),I.laid (t':=s.toks) (fun _ _=>PyProof.Rows.sortedAll_old) (Nat.le_succ _) ⟨mZ,out.toList,epc,b2,he'⟩,rfl,q _ _ (I.hok.fresh (Nat.le_succ _)) b1⟩
  ·cases e
 ·cases e
end
section
variable {G:bB} {k n:Nat} {X:Cx} {M:aF} {W:WX} {a b c e:Expr} {ca cb cc:E} {cU:Es} {p pos cH:Pos}
theorem Vr (g:Good G k X) (hg:Gl X "sorted") (hm:X.mg "sorted"=none) (ha:PE X a (tE G M W ca)) (hs:starEach [a] X.env=[(false,eval a X.env)]:=by rfl) (he:starEach [a] X.env=(false,eval a X.env)::starEach [] X.env:=by rfl) (jt:(backTo pos (starEach [] X.env)).any (·.1)=false:=by rfl):PE X (.Call (.Name "sorted" p) [a] [] pos) (tF G M W (.YG ca)):=
 (pe_callB (aev g.K) hg hm rfl (vJ ha hs) (by decide) (by decide) he jt).imp fun σ H Q ⟨ρ,η,S,s,r,h⟩=>⟨ρ,η,S,s,r,by
  simp only [d9] at h
  refine (PR.bind h).mono fun ρ1 H1 x S1 st s1 h1 v hv=> ?_
  split at h1
  ·rename_i xs ex
   exact ⟨ρ1,S1,x,v,xs,rfl,s1,hv,ex,fun q ws hq hws=>jD s st s1 h1 hq fun ρ' gG=>⟨_,upd_same,au.step gG _ _ hws⟩⟩
  ·exact h1.elim⟩
theorem Qe:∀ {ks:List Key} {zs:List Str},O6 ks=some zs→ks=zs.map Sum.inr
 | [],zs,e=>by simp only [O6,Option.some.injEq] at e;subst e;rfl
 | .inr z::ks,zs,e=>by
  simp only [O6] at e
  obtain ⟨l,e1,rfl⟩:=Option.map_eq_some_iff.mp e
  rw [Qe e1];rfl
 | .inl _::ks,zs,e=>by simp only [O6] at e;cases e
theorem Jr:∀ {ks:List Key} {zs:List Int},Jp ks=some zs→ks=zs.map Sum.inl
 | [],zs,e=>by simp only [Jp,Option.some.injEq] at e;subst e;rfl
 | .inl z::ks,zs,e=>by
  simp only [Jp] at e
  obtain ⟨l,e1,rfl⟩:=Option.map_eq_some_iff.mp e
  rw [Jr e1];rfl
 | .inr _::ks,zs,e=>by simp only [Jp] at e;cases e
theorem V2 [bT G X] (g:Good G k X) (hg:Gl X "sorted") (hm:X.mg "sorted"=none) (ha:PE X a (tE G M W ca)) (hs:starEach [a] X.env=[(false,eval a X.env)]:=by rfl) (he:starEach [a] X.env=(false,eval a X.env)::starEach [] X.env:=by rfl) (jt:(backTo pos (starEach [] X.env)).any (·.1)=false:=by rfl):PE X (.Call (.Name "sorted" p) [a] [] pos) (tF G M W (.XR ca)):=
 (pe_callB (aju (Yg g.calm) (YQ g.calm)) hg hm rfl (vJ ha hs) (by decide) (by decide) he jt).imp fun σ H Q ⟨ρ,η,S,s,r,h⟩=>⟨ρ,η,S,s,r,by
  simp only [d9] at h
  refine (PR.bind h).mono fun ρ1 H1 x S1 st s1 h1 v hv=> ?_
  split at h1
  ·rename_i xs ex
   unfold Et at ex
   split at ex
   ·rename_i ks vs ed
    split at ex
    ·rename_i zs ez
     split at ex
     ·rename_i h64
      cases ex
      obtain ⟨q,kvs,rfl,g1,g2,_⟩:=nJ s1 hv ed
      rw [Qe ez] at g2
      exact .inl ⟨q,kvs,zs,rfl,g1,g2,h64,fun ys p' py sy hq=>jD s st s1 h1 hq fun ρ' gG=>⟨_,upd_same,by rw [X7 py sy];exact au.WR⟩⟩
     ·cases ex
    ·split at ex
     ·rename_i ns en
      split at ex
      ·rename_i h64
       cases ex
       obtain ⟨q,kvs,rfl,g1,g2,_⟩:=nJ s1 hv ed
       rw [Jr en] at g2
       exact .inr ⟨q,kvs,ns,rfl,g1,g2,h64,fun ys p' py sy hq=>jD s st s1 h1 hq fun ρ' gG=>⟨_,upd_same,by rw [Um py sy];exact au.Wn⟩⟩
      ·cases ex
     ·cases ex
   ·cases ex
  ·exact h1.elim⟩
theorem Rc {ρ:List Addr} {H:Hp} {k:Key} {y:Vl} {v:V} (hv:VR G ρ H y v):∀ {ks:List Key} {xs:List Vl} {kvs:List (Key × V)},kvs.map (·.1)=ks→au G ρ H xs (kvs.map (·.2))→au G ρ H (mU k y ks xs) ((kvs.map fun kv=>if kv.1=k then (kv.1,v) else kv).map (·.2))
 | [],xs,[],_,h=>by
  simp only [List.map_nil] at h ⊢
  cases xs with
  | nil=>exact au.nil
  | cons x xs=>simp [au] at h
 | [],_,_::_,h,_=>by simp at h
 | _::_,_,[],h,_=>by simp at h
 | n::ns,[],_::_,_,h=>by simp [au] at h
 | n::ns,x::xs,(m,w)::fs,h,q=>by
  simp only [List.map_cons,List.cons.injEq] at h
  obtain ⟨rfl,h⟩:=h
  simp only [List.map_cons,au] at q
  obtain ⟨v',r,e1,k1,k2⟩:=q
  cases e1
  simp only [mU,List.map_cons]
  refine au.cons ?_ (Rc hv h k2)
  by_cases c:m=k
  ·rw [if_pos c,if_pos c];exact hv
  ·rw [if_neg c,if_neg c];exact k1
theorem Vx {ρ:List Addr} {H:Hp} {k:Key} {y:Vl} {v:V} (hv:VR G ρ H y v) {ks:List Key} {xs:List Vl} {kvs:List (Key × V)} (h:kvs.map (·.1)=ks) (q:au G ρ H xs (kvs.map (·.2))) :
  (putK kvs k v).map (·.1)=(putD ks xs k y).1∧au G ρ H (putD ks xs k y).2 ((putK kvs k v).map (·.2)):=by
 unfold putK putD
 have ea:(ks.any fun j=>decide (j=k))=kvs.any fun kv=>decide (kv.1=k):=by rw [← h,List.any_map];rfl
 rw [ea]
 by_cases c:(kvs.any fun kv=>decide (kv.1=k))=true
 ·rw [if_pos c,if_pos c]
  refine ⟨?_,Rc hv h q⟩
  rw [← h,List.map_map]
  refine List.map_congr_left fun kv _=> ?_
  simp only [Function.comp]
  split<;>rfl
 ·rw [if_neg c,if_neg c]
  refine ⟨by simp [h],?_⟩
  rw [List.map_append]
  exact q.append (au.cons hv au.nil)
def kvV (p:Key × Vl):Vl:=.tup [match p.1 with | .inl i=>.int i | .inr z=>.str z,p.2]
def ajL (G:bB):TSet:=fun o i v H Q=>∃ ρ S x k y T,bf G ρ H S∧VR G ρ H x o∧VR G ρ H k i∧VR G ρ H y v∧sU S x k y=some T∧∀ H',Step ρ H ρ H'→bf G ρ H' T→Q H'
theorem NB (g:Good G k X):PSet X (ajL G):=by
 intro pins s σ H o i v ov iv u Q I ro ri rv ⟨ρ,S,x,kk,y,T,s0,hx,hk,hy,e,q⟩
 unfold sU at e
 split at e
 ·rename_i r
  split at e
  ·rename_i ks vs eo
   split at e
   ·rename_i k' ek
    split at e
    ·rename_i hl
     cases e
     obtain ⟨a',rfl,hr,kvs,g1,g2,g3⟩:=s0.ref hx eo
     have ei:i=kV k':=by
      cases kk<;>simp only [Vl.key] at ek<;>cases ek<;>(simp only [VR] at hk;subst hk;rfl)
     subst ei
     obtain ⟨p1,p2⟩:=Vx (k:=k') hy g2 g3
     have hl':kvs.length<sizeLine:=by rw [← g2,List.length_map] at hl;exact hl
     have nf:∀ od u,H a'≠some (.frz od u):=fun od u z=>by rw [g1] at z;cases z
     obtain ⟨lN,s3⟩:=bf.put (ho:=.dK (putK kvs k' v)) (o2:=.dct (putD ks vs k' y).1 (putD ks vs k' y).2) s0 hr nf (by
      have gG:Step ρ H ρ (upd H a' (.dK (putK kvs k' v))):=⟨List.prefix_refl _,fun b o hb hn=>by
       rw [upd_ne fun e=>hn (by subst e;exact List.mem_of_getElem? hr)];exact hb,fun b hb=>.inl hb,o8 nf⟩
      exact ⟨_,upd_same,p1,au.step gG _ _ p2⟩)
     exact set_dict g.u1 pins s σ H _ _ v ov iv u Q I ro ri rv ⟨a',_,rfl,DPut.k g1 hl',q _ lN s3⟩
    ·cases e
   ·cases e
  ·rename_i xs eo
   split at e
   ·rename_i ii
    split at e
    ·rename_i j ej
     cases e
     obtain ⟨a',rfl,hr,vs,g1,g2⟩:=s0.ref hx eo
     simp only [VR] at hk
     subst hk
     have ak5:∀ (ρ:List Addr) (H:Hp) (y:Vl) (v:V),VR G ρ H y v→∀ (xs:List Vl) (vs:List V) (j:Nat),au G ρ H xs vs→au G ρ H (xs.set j y) (vs.set j v):=fun ρ H y v hy xs vs j h=>au.of_get (by simp [h.length]) fun i x w e1 e2=>by
      rw [List.getElem?_set] at e1 e2
      split at e1
      ·rename_i c
       rw [if_pos c] at e2
       split at e1
       ·rename_i c2
        rw [if_pos (by rw [← h.length];exact c2)] at e2
        cases e1;cases e2;exact hy
       ·cases e1
      ·rename_i c
       rw [if_neg c] at e2
       exact h.at_ e1 e2
     have nf:∀ od u,H a'≠some (.frz od u):=fun od u z=>by rw [g1] at z;cases z
     obtain ⟨lN,s3⟩:=bf.put (ho:=.lst (vs.set j v)) (o2:=.lst (xs.set j y)) s0 hr nf (by
      have gG:Step ρ H ρ (upd H a' (.lst (vs.set j v))):=⟨List.prefix_refl _,fun b o hb hn=>by
       rw [upd_ne fun e=>hn (by subst e;exact List.mem_of_getElem? hr)];exact hb,fun b hb=>.inl hb,o8 nf⟩
      exact ⟨_,upd_same,au.step gG _ _ (ak5 _ _ _ _ hy _ _ j g2)⟩)
     exact set_list pins s σ H _ _ v ov iv u Q I ro ri rv ⟨a',vs,ii,j,rfl,rfl,g1,by rw [← g2.length];exact ej,q _ lN s3⟩
    ·cases e
   ·cases e
  ·cases e
 ·cases e
theorem jh (g:Good G k X) {jA:Pos} (he:PE X e (tE G M W cc)) (ha:PE X a (tE G M W ca)) (hb:PE X b (tE G M W cb)) (hs:swapsWithSole [.Subscript a b jA] e pos.line X.env=pure false:=by rfl) (hw:swappedStores [.Subscript a b jA] e X.env=pure none:=by rfl)
  (h1:(assignEach [.Subscript a b jA] X.env).map (·.2)=[assign (.Subscript a b jA) X.env]:=by rfl)
  (ht:∀ v,assign (.Subscript a b jA) X.env v=(do
   let ov ← holding [v] (eval a X.env)
   let iv ← holding [v,ov] (eval b X.env)
   standAt jA
   holding [v,ov,iv] (setItem ov iv v)
   release [v,ov,iv] []):=by intro _;rfl):PS X (.Assign [.Subscript a b jA] e pos) (tC G M W (.uH ca cb cc)):=
 (ps_asg he (pg_sub ha hb (NB g) ht) hs hw h1).imp fun D σ H ⟨ρ,η,S,s,r,h⟩=>⟨ρ,η,S,s,r,by
  simp only [aP] at h
  refine (PQ.out s r h).mono fun ρ1 H1 y S1 bU s1 h1 v hv=>⟨ρ1,η,S1,s1,r.step bU,(PQ.out s1 (r.step bU) h1).mono fun ρ2 H2 x S2 st2 s2 h2 w hw=>⟨ρ2,η,S2,s2,(r.step bU).step st2,(PQ.out s2 ((r.step bU).step st2) h2).mono fun ρ3 H3 kk S3 lN s3 h3 iv hi=> ?_⟩⟩
  split at h3
  ·rename_i T eT
   exact ⟨ρ3,S3,x,kk,y,T,s3,hw.step lN,hi,(hv.step st2).step lN,eT,fun H' st4 s4=>h3 ρ3 H' σ st4 s4 ((((r.step bU).step st2).step lN).step st4)⟩
  ·exact h3.elim⟩
theorem Y5 [bT G X] (g:Good G k X) {a2 b2:Expr} {ca2 cb2:E} {DN jA ptu:Pos} {kt:Nat} (he:PE X e (tE G M W cc)) (ha:PE X a (tE G M W ca)) (hb:PE X b (tE G M W cb)) (ha2:PE X a2 (tE G M W ca2)) (ZJ:PE X b2 (tE G M W cb2))
  (hs:swapsWithSole [.Tuple [.Subscript a b DN,.Subscript a2 b2 jA] kt ptu] e pos.line X.env=pure false:=by rfl) (hw:swappedStores [.Tuple [.Subscript a b DN,.Subscript a2 b2 jA] kt ptu] e X.env=pure none:=by rfl)
  (h1:(assignEach [.Tuple [.Subscript a b DN,.Subscript a2 b2 jA] kt ptu] X.env).map (·.2)=[assign (.Tuple [.Subscript a b DN,.Subscript a2 b2 jA] kt ptu) X.env]:=by rfl)
  (e1:(assignEach [.Subscript a b DN,.Subscript a2 b2 jA] X.env).map (·.2)=assign (.Subscript a b DN) X.env::(assignEach [.Subscript a2 b2 jA] X.env).map (·.2):=by rfl)
  (e2:(assignEach [.Subscript a2 b2 jA] X.env).map (·.2)=assign (.Subscript a2 b2 jA) X.env::(assignEach [] X.env).map (·.2):=by rfl)
  (hn:(assignEach [.Subscript a b DN,.Subscript a2 b2 jA] X.env).length=2:=by rfl) (Ru:(assignEach [.Subscript a b DN,.Subscript a2 b2 jA] X.env).findIdx? (·.1)=none:=by rfl)
  (ht:∀ v,assign (.Subscript a b DN) X.env v=(do
   let ov ← holding [v] (eval a X.env)
   let iv ← holding [v,ov] (eval b X.env)
   standAt DN
   holding [v,ov,iv] (setItem ov iv v)
   release [v,ov,iv] []):=by intro _;rfl)
  (ht2:∀ v,assign (.Subscript a2 b2 jA) X.env v=(do
   let ov ← holding [v] (eval a2 X.env)
   let iv ← holding [v,ov] (eval b2 X.env)
   standAt jA
   holding [v,ov,iv] (setItem ov iv v)
   release [v,ov,iv] []):=by intro _;rfl) :
  PS X (.Assign [.Tuple [.Subscript a b DN,.Subscript a2 b2 jA] kt ptu] e pos) (tC G M W (.Vc ca cb ca2 cb2 cc)):=
 (ps_asg he (pg_tup g.calm (pgs_cons (pg_sub ha hb (NB g) ht) (pgs_cons (pg_sub ha2 ZJ (NB g) ht2) pgs_nil e2) e1) hn Ru) hs hw h1).imp fun D σ H ⟨ρ,η,S,s,r,h⟩=>⟨ρ,η,S,s,r,by
  simp only [aP] at h
  refine (PQ.out s r h).mono fun ρ1 H1 y S1 bU s1 h1 v hv=> ?_
  split at h1
  ·rename_i y z
   simp only [VR] at hv
   obtain ⟨ad,vs,rfl,hT,xO⟩:=hv
   simp only [au] at xO
   obtain ⟨v1,r1,rfl,hv1,v2,r2,rfl,hv2,rfl⟩:=xO
   refine ⟨ad,[v1,v2],rfl,by rw [g.K];exact hT.sq,rfl,v1,[v2],rfl,ρ1,η,S1,s1,r.step bU,(PQ.out s1 (r.step bU) h1).mono fun ρ2 H2 x S2 st2 s2 h2 w hw=>⟨ρ2,η,S2,s2,(r.step bU).step st2,(PQ.out s2 ((r.step bU).step st2) h2).mono fun ρ3 H3 kk S3 lN s3 h3 iv hi=> ?_⟩⟩
   split at h3
   ·rename_i T eT
    refine ⟨ρ3,S3,x,kk,y,T,s3,hw.step lN,hi,(hv1.step st2).step lN,eT,fun H4 st4 s4=> ?_⟩
    have r4:=(((r.step bU).step st2).step lN).step st4
    have h4:=PQ.step s3 st4 s4 h3
    refine ⟨v2,[],rfl,ρ3,η,T,s4,r4,(PQ.out s4 r4 h4).mono fun ρ5 H5 x2 S5 st5 s5 h5 w2 hw2=>⟨ρ5,η,S5,s5,r4.step st5,(PQ.out s5 (r4.step st5) h5).mono fun ρ6 H6 k2 S6 st6 s6 h6 iv2 R9=> ?_⟩⟩
    split at h6
    ·rename_i T2 eT2
     refine ⟨ρ6,S6,x2,k2,z,T2,s6,hw2.step st6,R9,((((hv2.step st2).step lN).step st4).step st5).step st6,eT2,fun H7 st7 s7=>⟨rfl,?_⟩⟩
     exact h6 ρ6 H7 σ st7 s7 (((r4.step st5).step st6).step st7)
    ·exact h6.elim
   ·exact h3.elim
  ·exact h1.elim⟩
end
end Oz
namespace Oz
open PySem L2 PyProof.Rows PySem.Spec
section
variable {G:bB} {k n:Nat} {X:Cx} {M:aF} {W:WX} {a b c e:Expr} {ca cb cc:E} {cU:Es} {p pos cH:Pos} {x:Str}
theorem aj9 {i:Int} {u:Value} {v:V} (hm:X.mg x=some u) (r:RelV v u) (hz:∀ ρ H,VR G ρ H (.int i) v) (hg:Gl X x:=by rfl) (hd:(x==("__debug__":Str))=false:=by decide):PE X (.Name x pos) (L2.tC (.int i)):=by
 have e:=hz [] fun _=>none
 simp only [VR] at e
 subst e
 exact pe_glob hg hm r hd
def ahs (G:bB) (M:aF) (W:WX):List Key→Es→List (TE × TE)
 | z::zs,.cons e es=>(L2.tC (kV z),tE G M W e)::ahs G M W zs es
 | _,_=>[]
theorem P0:∀ (zs:List Key) (es:Es) (ρ:List Addr) (η:Sg) (S:Hs) (σ:L2.St) (H:Hp) (Q:List (V × V)→Hp→Prop),zs.length=es.len→bf G ρ H S→ER G ρ H η σ→
  PR G W σ ρ H (evs M es η S) (fun ρ' H' xs S'=>∀ vs,au G ρ' H' xs vs→Q ((zs.map kV).zip vs) H')→tPairs (ahs G M W zs es) σ H Q
 | [],.nil,ρ,η,S,σ,H,Q,_,s,_,h=>by
  simp only [evs] at h
  exact h.here s [] au.nil
 | [],.cons _ _,_,_,_,_,_,_,hl,_,_,_=>by simp [Es.len] at hl
 | _::_,.nil,_,_,_,_,_,_,hl,_,_,_=>by simp [Es.len] at hl
 | z::zs,.cons e es,ρ,η,S,σ,H,Q,hl,s,r,h=>by
  simp only [evs] at h
  refine ⟨ρ,η,S,s,r,(PR.bind h).mono fun ρ1 H1 x S1 bU s1 h1 v hv=> ?_⟩
  refine P0 zs es ρ1 η S1 σ H1 _ (by simpa [Es.len] using hl) s1 (r.step bU) ((PR.bind h1).mono fun ρ2 H2 xs S2 st2 s2 h2 vs xO=> ?_)
  exact (h2.here s2) _ (au.cons (hv.step st2) xO)
theorem Wq (g:Good G k X) {zs:List Key} {cU:Es} {keys:List (Option Expr)} {values:List Expr} (h:PPs X pos keys values (ahs G M W zs cU)) (hz:zs.length=cU.len) (Tw:keys.all (·.isSome)=true) (hl:keys.length=values.length) (h0:keys≠[]) (h15:keys.length≤15):PE X (.Dict keys values pos) (tF G M W (.xR zs cU)):=(pe_disp h Tw hl h0 h15).imp fun σ H Q ⟨ρ,η,S,s,r,h⟩ p hp=>by
 simp only [d9] at h
 have sn:bf G (ρ++[p]) (upd H p (.dK [])) (S++[.dct [] []]):=s.new hp ⟨[],upd_same,rfl,au.nil⟩
 have stn:Step ρ H (ρ++[p]) (upd H p (.dK [])):=(bu (fK hp)).one hp
 refine P0 zs cU (ρ++[p]) η (S++[.dct [] []]) σ _ _ hz sn (r.step stn) ?_
 cases e:evs M cU η (S++[.dct [] []]) with
 | bad=>rw [e] at h;exact h.elim
 | exc x T=>rw [e] at h;exact h.elim
 | ok xs T=>
  rw [e] at h
  simp only at h
  split at h
  ·rename_i hc
   obtain ⟨rfl,Yc,hnd,mZ,h15'⟩:=hc
   refine fun ρ2 H2 st2 s2 vs xO=> ?_
   have e2:ρ2=ρ++[p]:=o9 st2.pre (by rw [s2.len,sn.len])
   subst e2
   have rp:(ρ++[p])[S.length]? =some p:=by rw [← s.len];simp
   obtain ⟨kvs0,g1,g2,_⟩:=s2.at_ S.length (.dct [] []) p (by simp) rp
   have g3:kvs0=[]:=List.map_eq_nil_iff.mp g2
   subst g3
   have lv:zs.length=vs.length:=by rw [mZ,xO.length]
   refine ⟨g1,zs.zip vs,?_,?_,?_⟩
   ·rw [List.zip_map_left]
    exact List.map_congr_left fun q _=>rfl
   ·rw [List.length_zip];omega
   ·have em:mergeK [] (zs.zip vs)=zs.zip vs:=Lp _ [] (by
     rw [List.map_nil,List.nil_append,List.map_fst_zip (by omega)]
     exact hnd)
    rw [em]
    have pρ:p∉ρ:=s.free hp
    have nf:∀ od u,H2 p≠some (.frz od u):=fun od u z=>by rw [g1] at z;cases z
    obtain ⟨lN,s3⟩:=bf.put (ho:=.dK (zs.zip vs)) (o2:=.dct zs xs) s2 rp nf (by
     have gG:Step (ρ++[p]) H2 (ρ++[p]) (upd H2 p (.dK (zs.zip vs))):=⟨List.prefix_refl _,fun b o hb hn=>by
      rw [upd_ne fun z=>hn (by subst z;simp)];exact hb,fun b hb=>.inl hb,o8 nf⟩
     exact ⟨_,upd_same,List.map_fst_zip (by omega),by rw [List.map_snd_zip (by omega)];exact au.step gG _ _ xO⟩)
    have eS:(S++[Ob.dct [] []]).set S.length (.dct zs xs)=S++[.dct zs xs]:=by simp
    rw [eS] at s3
    have sc:bf G ρ (upd H2 p (.dK (zs.zip vs))) S:=s3.cut s.len s.Yv
    have Uo:Step ρ H ρ (upd H2 p (.dK (zs.zip vs))):=⟨List.prefix_refl _,fun a o hh na=>by
     have nap:a≠p:=fun z=>by subst z;rw [hp] at hh;cases hh
     rw [upd_ne nap]
     exact st2.keep a o (by rw [upd_ne nap];exact hh) (by simp [na,nap]),fun a ha=>.inl ha,fun a od u hh=>by
     have nap:a≠p:=fun z=>by subst z;rw [hp] at hh;cases hh
     rw [upd_ne nap]
     exact st2.fz a od u (by rw [upd_ne nap];exact hh)⟩
    have fin:=h ρ _ Uo sc
    refine fin p hp pρ (OR.less (τ:=[p]) (s3.at_ S.length (.dct zs xs) p (by simp) rp) ?_) s3
    rw [s.len];exact Yc
  ·exact h.elim
inductive PF (X:Cx) (G:bB) (M:aF) (W:WX):List Expr→Es→Prop where
 | nil:PF X G M W [] .nil
 | cst {z:Str} {j:Nat} {q:Pos} {es:List Expr} {cs:Es} (r:PF X G M W es cs):PF X G M W (.Constant (.str z) j q::es) (.cons (.cst (.str z)) cs)
 | fmt {e:Expr} {c:E} {q:Pos} {es:List Expr} {cs:Es} (h:PE X e (tE G M W c)) (r:PF X G M W es cs):PF X G M W (.FormattedValue e (-1) none q::es) (.cons c cs)
noncomputable def fsR (M:aF) (cs:Es) (aQ:Str) (η:Sg) (S:Hs):Res Str:=(Rr (evs M cs η S)).bind fun xs S1=>gY S1 (rB xs aQ)
theorem JX {x:Vl} {xs:List Vl} {aQ out:Str} (h:rB (x::xs) aQ=some out):∃ y,Am x=some y∧(aQ++y).length≤sizeLine∧rB xs (aQ++y)=some out:=by
 simp only [rB] at h
 split at h
 ·rename_i y e
  split at h
  ·rename_i c;exact ⟨y,e,c,h⟩
  ·cases h
 ·cases h
theorem ahB {es:List Expr} {cs:Es} (h:PF X G M W es cs):∃ ts,PJ X es ts∧∀ (aQ:Str) (σ:L2.St) (H:Hp) (Q:Str→Hp→Prop),(∃ ρ η S,bf G ρ H S∧ER G ρ H η σ∧PR G W σ ρ H (fsR M cs aQ η S) (fun _ H' z _=>Q z H'))→tJs ts aQ σ H Q:=by
 induction h with
 | nil=>
  refine ⟨[],.nil,fun aQ σ H Q ⟨ρ,η,S,s,r,h⟩=> ?_⟩
  simp only [fsR,evs,Rr,Res.bind,rB,gY] at h
  exact h.here s
 | @cst z j q es cs r ih=>
  obtain ⟨ts,h1,h2⟩:=ih
  refine ⟨L2.tC (.str z)::ts,.cons pe_str h1,fun aQ σ H Q ⟨ρ,η,S,s,r,h⟩=> ?_⟩
  have h:PR G W σ ρ H ((Rr ((evs M cs η S).bind fun xs S2=>.ok (.str z::xs) S2)).bind fun xs S1=>gY S1 (rB xs aQ)) (fun _ H' z _=>Q z H'):=by
   have e0:evs M (.cons (.cst (.str z)) cs) η S=(evs M cs η S).bind fun xs S2=>.ok (.str z::xs) S2:=by simp only [evs,ev,Res.bind]
   unfold fsR at h;rw [e0] at h;exact h
  cases e:evs M cs η S with
  | ok xs S'=>
   rw [e] at h
   have h:PR G W σ ρ H (gY S' (rB (.str z::xs) aQ)) (fun _ H' z _=>Q z H'):=h
   cases eo:rB (.str z::xs) aQ with
   | none=>rw [eo] at h;exact h.elim
   | some out=>
    rw [eo] at h
    obtain ⟨y,e1,c,e2⟩:=JX eo
    simp only [Am] at e1
    split at e1
    ·cases e1
     refine ⟨_,rfl,c,h2 _ σ H Q ⟨ρ,η,S,s,r,?_⟩⟩
     unfold fsR
     rw [e]
     simp only [Rr,Res.bind,e2]
     exact h
    ·cases e1
  | exc x S'=>rw [e] at h;exact h.elim
  | bad=>rw [e] at h;exact h.elim
 | @fmt e c q es cs he r ih=>
  obtain ⟨ts,h1,h2⟩:=ih
  refine ⟨tFmt (tE G M W c)::ts,.cons (pe_fmt he) h1,fun aQ σ H Q ⟨ρ,η,S,s,r,h⟩=>⟨ρ,η,S,s,r,?_⟩⟩
  simp only [fsR,evs] at h
  cases e1:ev M c η S with
  | ok x S1=>
   rw [e1] at h
   simp only [Res.bind] at h
   cases e2:evs M cs η S1 with
   | ok xs S2=>
    rw [e2] at h
    simp only [Rr] at h
    cases eo:rB (x::xs) aQ with
    | none=>rw [eo] at h;exact h.elim
    | some out=>
     rw [eo] at h
     obtain ⟨y,e3,cl,e4⟩:=JX eo
     refine fun ρ1 H1 st s1 v hv=> ?_
     have rest:tJs ts (aQ++y) σ H1 Q:=h2 _ σ H1 Q ⟨ρ1,η,S1,s1,r.step st,by
      unfold fsR
      rw [e2]
      simp only [Rr,Res.bind,e4]
      exact PR.step h st⟩
     unfold Am at e3
     split at e3
     ·split at e3
      ·rename_i hz
       cases e3
       simp only [VR] at hv
       subst hv
       exact .inl ⟨_,rfl,hz,_,rfl,cl,rest⟩
      ·cases e3
     ·split at e3
      ·rename_i hz
       cases e3
       simp only [VR] at hv
       subst hv
       exact .inr ⟨_,rfl,hz,_,rfl,cl,rest⟩
      ·cases e3
     ·cases e3
   | exc x S'=>rw [e2] at h;exact h.elim
   | bad=>rw [e2] at h;exact h.elim
  | exc x S'=>rw [e1] at h;exact h.elim
  | bad=>rw [e1] at h;exact h.elim
theorem aaF {v1 v2:Expr} {rest:List Expr} (h:PF X G M W (v1::v2::rest) cU):PE X (.JoinedStr (v1::v2::rest) pos) (tE G M W (.fs cU)):=by
 obtain ⟨ts,h1,h2⟩:=ahB h
 refine (pe_joined h1).imp fun σ H Q ⟨ρ,η,S,s,r,h⟩=>h2 Str.empty σ H _ ⟨ρ,η,S,s,r,?_⟩
 simp only [ev] at h
 unfold fsR
 cases e:Rr (evs M cU η S) with
 | ok xs S1=>
  rw [e] at h
  simp only [Res.bind] at h ⊢
  cases eo:rB xs Str.empty with
  | none=>rw [eo] at h;exact h.elim
  | some out=>
   rw [eo] at h
   exact fun ρ1 H1 st s1=>h ρ1 H1 st s1 _ (by simp only [VR])
 | exc x S1=>
  exfalso
  revert e
  cases evs M cU η S<;>simp [Rr]
 | bad=>rw [e] at h;exact h.elim
theorem ag6 [bT G X] (g:Good G k X) (hg:Gl X "min") (hm:X.mg "min"=none) (ha:PE X a (tE G M W ca)) (hb:PE X b (tE G M W cb)) (hs:starEach [a,b] X.env=(false,eval a X.env)::starEach [b] X.env:=by rfl) (CJ:starEach [b] X.env=(false,eval b X.env)::starEach [] X.env:=by rfl) (jt:(backTo pos (starEach [b] X.env)).any (·.1)=false:=by rfl) :
  PE X (.Call (.Name "min" p) [a,b] [] pos) (tE G M W (.mn ca cb)):=(pe_callB (call_min2 g.calm) hg hm (by decide+kernel) (pa_cons ha (pa_cons hb pa_nil CJ) hs) (by decide) (by decide) hs jt).imp fun σ H Q ⟨ρ,η,S,s,r,h⟩=>⟨ρ,η,S,s,r,by
 simp only [ev] at h
 refine (PR.bind h).mono fun ρ1 H1 x S1 bU s1 h1 v hv=>⟨ρ1,η,S1,s1,r.step bU,(PR.bind h1).mono fun ρ2 H2 y S2 st2 s2 h2 w hw=> ?_⟩
 cases x with
 | int i=>
  cases y with
  | int j=>
   simp only [VR] at hv hw
   subst hv hw
   exact ⟨i,j,rfl,h2.here s2 _ (by simp only [VR])⟩
  | _=>exact h2.elim
 | _=>exact h2.elim⟩
structure RpM (P:Program) (w:World) (K:PySem.W.Frag) (mg:Str→Option Value) (base:Heap) (G:bB) (M:aF) (k:Nat) (c:Str):Prop where
 ex:∃ (f:Addr) (fd:FuncData) (ps:List Str),qu P w K mg base k f fd ps (spI G M 1 (dot c "__repr__"))∧PySem.W.findIn K (.ref (G.cl c)) "__repr__"=some (some (.ref f))∧PySem.W.isFn K (.ref f)=true∧Binds K fd ps []
def ag0 (G:bB) (M:aF) (c:Str):List V→Hp→VK→Prop:=fun xs H Q=>∃ ρ S x v,xs=[v]∧bf G ρ H S∧VR G ρ H x v∧lF S x c "__repr__"=true∧PR G (fun _ _ _ _=>False) [] ρ H (qj M (dot c "__repr__") [x] S) fun _ H' z _=>∃ n,z=.str n∧Q (.str n) H'
theorem abL {c:Str} {f:Addr} {fd:FuncData} {ps:List Str} [bT G X] (g:Good G (k+1) X) (F:qu X.prog X.w X.K X.mg X.base k f fd ps (spI G M 1 (dot c "__repr__"))) (hs:PySem.W.findIn X.K (.ref (G.cl c)) "__repr__"=some (some (.ref f))) (hf:PySem.W.isFn X.K (.ref f)=true) (hb:Binds X.K fd ps []):CallR X (.builtin "repr") (ag0 G M c):=by
 intro pins s σ H xs us Q I r h
 obtain ⟨ρ,S,x,v,rfl,s0,hv,hM,hp⟩:=h
 obtain ⟨a',dx,fs,rfl,ea,l⟩:=ym s0 hv hM
 rw [Vals.ref1 r]
 obtain ⟨mA,J,_⟩:=ins_get I.hok ea
 obtain ⟨od,J,_⟩:=J.look
 obtain ⟨m',hF⟩:=I.fr
 refine PySem.W.repr_K g.u1 hF I.ok.mod.kin J hs hf (wpAny_mono (R6 (vs:=[.ref a']) (E':=X.xe) (A:=X.A.in1) (Q:=fun z H'=>∃ n,z=.str n∧Q (.str n) H') F g.rm.in1 g.N7 rfl hb I (.cons rfl .nil) ⟨rfl,ρ,S,[x],s0,au.cons hv au.nil,?_⟩) (fun u s1 ⟨z,H1,I1,rz,n,ez,q⟩=> ?_) fun _ _ z=>z)
 ·exact Nm s0 hp fun ρ' H' x S' v st s' ⟨n,e,q⟩ hv=>by
   subst e
   simp only [VR] at hv
   exact ⟨n,hv,q⟩
 ·subst ez
  obtain ⟨t,rfl⟩:=rz
  exact ⟨.str n,H1,I1,⟨_,rfl⟩,q⟩
theorem rp {c:Str} [bT G X] (g:Good G (k+1) X) (cm:RpM X.prog X.w X.K X.mg X.base G M k c) (hm:X.mg "repr"=none) (ha:PE X a (tE G M W ca)) (hg:Gl X "repr":=by rfl) (Tj:starEach [a] X.env=[(false,eval a X.env)]:=by rfl) (he:starEach [a] X.env=(false,eval a X.env)::starEach [] X.env:=by rfl) (jt:(backTo pos (starEach [] X.env)).any (·.1)=false:=by rfl) :
  PE X (.Call (.Name "repr" p) [a] [] pos) (tE G M W (.K7 c ca)):=by
 obtain ⟨f,fd,ps,F,hs,hf,hb⟩:=cm.ex
 refine (pe_callB (abL g F hs hf hb) hg hm (by decide+kernel) (vJ ha Tj) (by decide) (by decide) he jt).imp fun σ H Q ⟨ρ,η,S,s,r,h⟩=>⟨ρ,η,S,s,r,?_⟩
 simp only [ev] at h
 refine (PR.bind h).mono fun ρ1 H1 x S1 bU s1 h1 v hv=> ?_
 split at h1
 ·rename_i hM
  refine ⟨ρ1,S1,x,v,rfl,s1,hv,hM,RJ ((PR.bind h1).mono fun ρ2 H2 z S2 st2 s2 h2=> ?_)⟩
  split at h2
  ·exact ⟨_,rfl,h2.here s2 _ (by simp only [VR])⟩
  ·exact h2.elim
 ·exact h1.elim
theorem Ck {pos:Pos} {T:String} {e:Expr} {rest:List Expr} {kws:List Keyword} {env:Env} {Mo:Model} {A:Around} {E:Value→Shared→Prop} {s:Shared} {Q:Value→Shared→Prop}
  (h:wpAny Mo A (spliced (backTo pos (starEach (e::rest) env))) (fun vs s₁=>wpAny Mo A (evalAll ((backToKw pos (keywordEach kws env)).map (·.2)))
   (fun kvs s₂=>wpAny Mo A (call (.type T) vs (((backToKw pos (keywordEach kws env)).filterMap (·.1)).zip kvs)) Q E s₂) E s₁) E s)
  (he:backTo pos (starEach (e::rest) env)=(false,eval e env)::backTo pos (starEach rest env):=by rfl)
  (rO:(backTo pos (starEach (e::rest) env)).any (·.1)=false:=by rfl)
  (Tw:(backToKw pos (keywordEach kws env)).all (·.1.isSome)=true:=by rfl)
  (hkw:(backToKw pos (keywordEach kws env)).any (·.1.isNone)=false:=by rfl) :
  wpAny Mo A (callWith pos (.type T) [] (backTo pos (starEach (e::rest) env)) (backToKw pos (keywordEach kws env))) Q E s:=by
 have h':wpAny Mo A (evalArgs (.type T) true (backTo pos (starEach (e::rest) env)) (backToKw pos (keywordEach kws env))) (fun a s₁=>wpAny Mo A (call (.type T) ([]++a.pos) a.kw) Q E s₁) E s:=by
  rw [he] at h ⊢
  exact evalArgs_kwB Tw h
 unfold callWith
 refine wpAny_bind (wpAny_holding (wpAny_mono h' (fun a s₁ h₁=>wpAny_bind (wpAny_standAt ?_)) fun _ _ x=>x))
 simp only [rO,hkw,Bool.or_false]
 refine wpAny_bind (wpAny_pure ?_)
 exact wpAny_bind (wpAny_mono h₁ (fun r s₂ hr=>wpAny_bind (wpAny_holding (wpAny_point (wpAny_pure hr)))) fun _ _ x=>x)
def afP (K:PySem.W.Frag) (k0:Int) (ta:TA):TI:=fun σ H R=>ta σ H fun xs H1=>∃ q vs,xs=[Kq.v q]∧q.cur K H1 vs∧R (abR K k0 q) H1
theorem ack {e:Expr} {ta:TA} {uQ kp cp:Pos} {t7:List Expr} {kk jj:Nat} {k0:Int} (hk0: -(2 ^ 63)≤k0) (hk1:k0<2 ^ 63) (hg:Gl X "enumerate") (hm:X.mg "enumerate"=none) (ha:PA X [e] ta)
  (he:backTo pos (starEach [e] X.env)=(false,eval e X.env)::backTo pos (starEach [] X.env):=by rfl) (jt:(backTo pos (starEach [e] X.env)).any (·.1)=false:=by rfl)
  (Tw:(backToKw pos (keywordEach [⟨some "start",.Constant (.int k0) jj cp,kp⟩] X.env)).all (·.1.isSome)=true:=by rfl) (abg:(backToKw pos (keywordEach [⟨some "start",.Constant (.int k0) jj cp,kp⟩] X.env)).any (·.1.isNone)=false:=by rfl) (hks:(backToKw pos (keywordEach [⟨some "start",.Constant (.int k0) jj cp,kp⟩] X.env)).filterMap (·.1)=[Str.ofString "start"]:=by rfl) :
  PI X (.Tuple t7 kk uQ) (.Call (.Name "enumerate" p) [e] [⟨some "start",.Constant (.int k0) jj cp,kp⟩] pos) (afP X.K k0 ta):=by
 refine ⟨fun pins s σ H R I h=> ?_⟩
 have hk:PK X [⟨some "start",.Constant (.int k0) jj cp,kp⟩] (tCons (L2.tC (.int k0)) tNil):=pk_cons pe_int pk_nil
 refine wpAny_Call_Name_kw (ld_blt I hg hm boot_enumerate ?_)
 refine Ck (thn (ha.run pos pins s σ H _ I h) fun us s1 ⟨xs,H1,I1,r1,q1⟩=>thn (hk.run pos pins s1 σ H1 (fun zs H2=>zs=[.int k0]∧H2=H1) I1 ⟨rfl,rfl⟩) fun ws s2 ⟨zs,H2,I2,r2,ez,eH⟩=> ?_) he jt Tw abg
 subst ez eH
 rw [hks]
 obtain ⟨q,vs,ex,c1,hR⟩:=q1
 subst ex
 obtain ⟨u1,rfl,t,rfl⟩:=vals1 r2
 obtain ⟨u,rfl,ru⟩:=vals1 r1
 obtain ⟨o1,K1,B1,k1,l1,a1⟩:=Kq.begins I2 c1 ru
 exact enum_begins_start B1 k1 hk0 hk1 fun h' he' g1 Z7 hk'=>Kg I2 c1 l1 a1 he' g1 hk' hR
theorem Qh (g:Good G k X) {uQ kp cp:Pos} {t7:List Expr} {kk jj:Nat} {k0:Int} (hk0: -(2 ^ 63)≤k0) (hk1:k0<2 ^ 63) (hg:Gl X "enumerate") (hm:X.mg "enumerate"=none) (ha:PA X [a] (tA G M W (.cons ca .nil)))
  (he:backTo pos (starEach [a] X.env)=(false,eval a X.env)::backTo pos (starEach [] X.env):=by rfl) (jt:(backTo pos (starEach [a] X.env)).any (·.1)=false:=by rfl)
  (Tw:(backToKw pos (keywordEach [⟨some "start",.Constant (.int k0) jj cp,kp⟩] X.env)).all (·.1.isSome)=true:=by rfl) (abg:(backToKw pos (keywordEach [⟨some "start",.Constant (.int k0) jj cp,kp⟩] X.env)).any (·.1.isNone)=false:=by rfl) (hks:(backToKw pos (keywordEach [⟨some "start",.Constant (.int k0) jj cp,kp⟩] X.env)).filterMap (·.1)=[Str.ofString "start"]:=by rfl) :
  PI X (.Tuple t7 kk uQ) (.Call (.Name "enumerate" p) [a] [⟨some "start",.Constant (.int k0) jj cp,kp⟩] pos) (tS G M W (.Y6 ca k0)):=(ack hk0 hk1 hg hm ha he jt Tw abg hks).imp fun σ H R ⟨ρ,η,S,s,r,h⟩=>⟨ρ,η,S,s,r,by
 simp only [pC] at h
 rw [afM]
 refine PR.re1 h fun ρ1 H1 x S1 st s1 h1 vs hv=> ?_
 simp only [au] at hv
 obtain ⟨v,r,rfl,hv1,rfl⟩:=hv
 obtain ⟨⟨l1,xs⟩,e1,h2⟩:=(PR.bind h1).gY
 obtain ⟨q,rfl,⟨vs,c1⟩,w1⟩:=walk_of s1 hv1 e1
 rw [g.K];exact ⟨q,vs,rfl,c1,(h2.here s1).here s1 _ (JW.Y6 w1)⟩⟩
end
end Oz
namespace Oz
open PySem PySem.Spec L2 PyProof.Rows
section
variable {G:bB} {k:Nat} {X:Cx} {M:aF} {W:WX} {pos:Pos}
def al4 (G:bB) (M:aF) (W:WX):Es→List (TE × TE)
 | .cons a (.cons b es)=>(tE G M W a,tE G M W b)::al4 G M W es
 | _=>[]
def aj7:Es→Bool
 | .nil=>true
 | .cons _ (.cons _ es)=>aj7 es
 | .cons _ .nil=>false
def amd:List V→List (V × V)
 | a::b::r=>(a,b)::amd r
 | _=>[]
end
end Oz
namespace Oz
open PySem L2 PyProof.Rows PySem.Spec
section
variable {G:bB} {M:aF} {W:WX} {X:Cx} {k:Nat}
theorem G5 {n:Nat} {kk:Key} {y:Vl} (hy:y.lim n=true):∀ {ks:List Key} {vs:List Vl},aV n vs=true→aV n (mU kk y ks vs)=true
 | [],_,_=>by simp [mU,aV]
 | _::_,[],_=>by simp [mU,aV]
 | j::ks,v::vs,h=>by
  simp only [aV,Bool.and_eq_true] at h
  simp only [mU,aV,Bool.and_eq_true]
  refine ⟨?_,G5 hy h.2⟩
  split
  ·exact hy
  ·exact h.1
theorem R3 {n:Nat} {kk:Key} {y:Vl} {ks:List Key} {vs:List Vl} (hy:y.lim n=true) (h:aV n vs=true):aV n (putD ks vs kk y).2=true:=by
 unfold putD
 split
 ·exact G5 hy h
 ·exact nD h hy
theorem aic {ρ:List Addr} {H:Hp} {x:Vl} {v:V} {kk:Key} (h:VR G ρ H x v) (e:x.key=some kk):v=kV kk:=by
 cases x<;>simp only [Vl.key] at e<;>cases e<;>(simp only [VR] at h;subst h;rfl)
theorem aiN {own:List Nat} {ke ve:E} {t:Tg} {qP:Src} {ci:Es} (ht:∀ i∈t.slots,i∈own) (σ:L2.St) (H:Hp) (Q:VK) (h:tF G M W (.Ku own ke ve t qP ci) σ H Q):tDc (tS G M W qP) (tG G t) (xW G M WF ci) (tE G M WF ke) (tE G M WF ve) own σ H Q:=by
 obtain ⟨ρ,η,S,s,r,h⟩:=h
 refine ⟨ρ,η,S,s,r,?_⟩
 simp only [d9] at h
 refine (PR.bind h).mono fun ρ1 H1 p S1 st s1 h1 J jw D hD=> ?_
 obtain ⟨lk,xs⟩:=p
 simp only at h1 jw
 have hD0:H D=none:=none_of s s1 st hD
 have hDn:D∉ρ1:=s1.free hD
 have Bp:=s1.len
 have sm:Same H1 (upd H1 D (.dK [])):=fK hD
 have stD:Step ρ1 H1 (ρ1++[D]) (upd H1 D (.dK [])):=(bu sm).one hD
 have U5:bf G (ρ1++[D]) (upd H1 D (.dK [])) (S1++[.dct [] []]):=s1.new hD ⟨[],upd_same,rfl,au.nil⟩
 have rD:(ρ1++[D])[S1.length]? =some D:=by rw [← Bp];simp
 generalize Ep:(fun (x:Vl) (S2:Hs)=>match aZ t x (bR η own) with
   | none=>(Res.bad:Res (Option (Vl × Vl)))
   | some η1=>(dB M ci η1 S2).bind fun b S3=>if b=true then (ev M ke η1 S3).bind fun k S4=>(ev M ve η1 S4).bind fun y S5=>.ok (some (k,y)) S5 else .ok none S3)=step at h1
 refine ⟨fun i m H'=>m=xs.length - i∧i≤xs.length∧∃ ks vs,Step ρ1 H1 (ρ1++[D]) H'∧bf G (ρ1++[D]) H' (S1++[.dct ks vs])∧PR G W σ ρ1 H1 ((tM step lk (xs.drop i) ks vs S1).bind fun q S2=>.ok (.dct q.1 q.2) S2) (Ci G H Q)∧aV S1.length vs=true,⟨xs.length,by simp,Nat.zero_le _,[],[],stD,U5,by simpa using h1,by simp [aV]⟩,?_⟩
 rintro i m H' ⟨rfl,hi,ks,vs,gG,s',h',la⟩
 by_cases hl:i<xs.length
 ·refine .inr ?_
  rw [List.drop_eq_getElem_cons hl] at h'
  simp only [tM] at h'
  split at h'
  ·rename_i l'
   have l2:cP lk (S1++[.dct ks vs]):=fun p hp=>by
    have e:=l' p hp
    rw [List.getElem?_append_left (aJ e)];exact e
   obtain ⟨hgo,hy⟩:=jw.go _ H' _ i xs[i] (Step.x gG) s' l2 (by simp [hl])
   refine ⟨hgo,fun H3=>∃ ks vs,Step ρ1 H1 (ρ1++[D]) H3∧bf G (ρ1++[D]) H3 (S1++[.dct ks vs])∧PR G W σ ρ1 H1 ((tM step lk (xs.drop (i+1)) ks vs S1).bind fun q S2=>.ok (.dct q.1 q.2) S2) (Ci G H Q)∧aV S1.length vs=true,fun H3 a=>⟨xs.length - (i+1),by omega,rfl,by omega,a⟩,fun v H3 y=> ?_⟩
   obtain ⟨sm3,hv⟩:=hy v H3 y
   have lN:Step (ρ1++[D]) H' (ρ1++[D]) H3:=bu sm3
   have s3:=s'.same sm3
   have est:step xs[i] (S1++[.dct ks vs])=match aZ t xs[i] (bR η own) with
     | none=>(Res.bad:Res (Option (Vl × Vl)))
     | some η1=>(dB M ci η1 (S1++[.dct ks vs])).bind fun b S3=>if b=true then (ev M ke η1 S3).bind fun k S4=>(ev M ve η1 S4).bind fun y S5=>.ok (some (k,y)) S5 else .ok none S3:=by rw [← Ep]
   cases eb:aZ t xs[i] (bR η own) with
   | none=>rw [est,eb] at h';exact h'.elim
   | some η2=>
    rw [est,eb] at h'
    simp only at h'
    have er3:ER G (ρ1++[D]) H3 (bR η own) (wipe σ own):=(((r.step st).step gG).step lN).wipe own
    refine ⟨ρ1++[D],S1++[.dct ks vs],bR η own,xs[i],η2,s3,er3,hv,eb,fun σ4 of4 r4=>⟨yG of4 ht,ρ1++[D],η2,S1++[.dct ks vs],s3,r4,?_⟩⟩
    cases ea:dB M ci η2 (S1++[.dct ks vs]) with
    | bad=>rw [ea] at h';exact h'.elim
    | exc x S3=>rw [ea] at h';exact h'.elim
    | ok b S3=>
     rw [ea] at h'
     simp only [Res.bind] at h'
     refine fun ρ5 H5 st5 s5=> ?_
     cases b with
     | false=>
      simp only [Bool.false_eq_true,if_false] at h' ⊢
      by_cases c5:S3=S1++[.dct ks vs]∧ks.length<sizeLine
      ·rw [if_pos c5] at h'
       obtain ⟨rfl,_⟩:=c5
       have e5:ρ5=ρ1++[D]:=o9 st5.pre (by rw [s5.len,← s3.len])
       subst e5
       exact ⟨ks,vs,(gG.trans lN).trans st5,s5,h',la⟩
      ·rw [if_neg c5] at h';exact h'.elim
     | true=>
      simp only [if_true] at h' ⊢
      refine ⟨ρ5,η2,S3,s5,r4.step st5,?_⟩
      cases ev6:ev M ke η2 S3 with
      | bad=>rw [ev6] at h';exact h'.elim
      | exc x S4=>rw [ev6] at h';exact h'.elim
      | ok kx S4=>
       rw [ev6] at h'
       simp only [Res.bind] at h'
       refine fun ρ6 H6 st6 s6 kv hkv=>⟨ρ6,η2,S4,s6,(r4.step st5).step st6,?_⟩
       cases ev7:ev M ve η2 S4 with
       | bad=>rw [ev7] at h';exact h'.elim
       | exc x S5=>rw [ev7] at h';exact h'.elim
       | ok y S5=>
        rw [ev7] at h'
        simp only at h'
        refine fun ρ7 H7 st7 s7 w hw=> ?_
        by_cases c7:S5=S1++[.dct ks vs]∧ks.length<sizeLine
        ·rw [if_pos c7] at h'
         obtain ⟨rfl,hz⟩:=c7
         have e7:ρ7=ρ1++[D]:=o9 ((st5.trans st6).trans st7).pre (by rw [s7.len,← s3.len])
         subst e7
         cases ek:kx.key with
         | none=>rw [ek] at h';exact h'.elim
         | some kk=>
          rw [ek] at h'
          simp only at h'
          by_cases ly:y.lim S1.length=true
          ·rw [if_pos ly] at h'
           obtain ⟨kvs,g1,g2,g3⟩:=s7.at_ S1.length (.dct ks vs) D (by simp) rD
           obtain ⟨p1,p2⟩:=Vx (k:=kk) hw g2 g3
           have nf:∀ od u,H7 D≠some (.frz od u):=fun od u z=>by rw [g1] at z;cases z
           obtain ⟨st8,s8⟩:=bf.put (ho:=.dK (putK kvs kk w)) (o2:=.dct (putD ks vs kk y).1 (putD ks vs kk y).2) s7 rD nf (by
            have stE:Step (ρ1++[D]) H7 (ρ1++[D]) (upd H7 D (.dK (putK kvs kk w))):=⟨List.prefix_refl _,fun b o hb hn=>by
             rw [upd_ne fun e=>hn (by subst e;simp)];exact hb,fun b hb=>.inl hb,o8 nf⟩
            exact ⟨_,upd_same,p1,au.step stE _ _ p2⟩)
           refine ⟨kvs,kk,aic hkv ek,g1,by rw [← g2,List.length_map] at hz;exact hz,(putD ks vs kk y).1,(putD ks vs kk y).2,((((gG.trans lN).trans st5).trans st6).trans st7).trans st8,by simpa using s8,h',R3 ly la⟩
          ·rw [if_neg ly] at h';exact h'.elim
        ·rw [if_neg c7] at h';exact h'.elim
  ·exact h'.elim
 ·have e:i=xs.length:=by omega
  subst e
  rw [List.drop_length] at h'
  simp only [tM] at h'
  split at h'
  ·rename_i l'
   have l2:cP lk (S1++[.dct ks vs]):=fun p hp=>by
    have e:=l' p hp
    rw [List.getElem?_append_left (aJ e)];exact e
   refine .inl ⟨jw.stop _ H' _ (Step.x gG) s' l2,?_⟩
   have sc:bf G ρ1 H' S1:=s'.cut Bp s1.Yv
   have Uo:Step ρ1 H1 ρ1 H':=⟨List.prefix_refl _,gG.keep,fun a ha=>.inl ha,gG.fz⟩
   have fin:Ci G H Q ρ1 H' (.dct ks vs) S1:=h' ρ1 H' Uo sc
   exact fin D hD0 hDn (OR.less (s'.at_ S1.length (.dct ks vs) D (by simp) rD) (by rw [Bp];exact la)) s'
  ·exact h'.elim
theorem Qp {kx vx tg iter:Expr} {jZ:List Expr} {scope:Scope} {own:List (Str × Nat)} {pos:Pos} {ke ve:E} {t:Tg} {qP:Src} {ci:Es} [bT G X] (g:Good G k X) (yg:∀ i∈t.slots,i∈own.map (·.2)) (hi:PI X tg iter (tS G M W qP)) (ok:BlkOk X.N X.env.scope scope own)
  (hg:∀ (s:Shared) (H:Hp) (C:Addr) (cl:List (Str × Addr)) (fp:List Addr),PG (X.blk s H scope (compEnvC scope cl C X.env) fp) tg (tG G t)) (ht:∀ (s:Shared) (H:Hp) (C:Addr) (cl:List (Str × Addr)) (fp:List Addr),PTs (X.blk s H scope (compEnvC scope cl C X.env) fp) jZ (xW G M WF ci))
  (hk:∀ (s:Shared) (H:Hp) (C:Addr) (cl:List (Str × Addr)) (fp:List Addr),PE (X.blk s H scope (compEnvC scope cl C X.env) fp) kx (tE G M WF ke))
  (he:∀ (s:Shared) (H:Hp) (C:Addr) (cl:List (Str × Addr)) (fp:List Addr),PE (X.blk s H scope (compEnvC scope cl C X.env) fp) vx (tE G M WF ve)) (hs:∀ x,foldedSetIterable iter X.env x=pure x:=by intro _;rfl) :
  PE X (.DictComp kx vx [⟨tg,iter,jZ,0⟩] scope pos) (tF G M W (.Ku (own.map (·.2)) ke ve t qP ci)):=(pe_dc g.calm g.nd hi ok hg ht hk he hs).imp fun σ H Q h=>aiN yg σ H Q h
theorem afp {own:List Nat} {ce:E} {t:Tg} {ci:Es} (ht:∀ i∈t.slots,i∈own) {σ:L2.St} {ρ1:List Addr} {H0 H1:Hp} {Q:VK} {η:Sg} {S1:Hs} {lk:List Lk} {xs:List Vl} (aiY:∀ p,H1 p=none→H0 p=none) (s1:bf G ρ1 H1 S1) (r1:ER G ρ1 H1 η σ)
  (h1:PR G W σ ρ1 H1 ((gJ (fun x S2=>match aZ t x (bR η own) with
   | none=>.bad
   | some η1=>(dB M ci η1 S2).bind fun b S3=>if b=true then (ev M ce η1 S3).bind fun y S4=>.ok (some y) S4 else .ok none S3) lk xs [] S1).bind fun ys S2=>.ok (.lst ys) S2) (Ci G H0 Q)) {J:It} (jw:JW G J ρ1 H1 lk xs) :
  tLc (fun _ H R=>R J H) (tG G t) (xW G M WF ci) (tE G M WF ce) own σ H1 Q:=by
 intro D hD
 have hD0:H0 D=none:=aiY D hD
 have hDn:D∉ρ1:=s1.free hD
 have Bp:=s1.len
 have sm:Same H1 (upd H1 D (.lst [])):=fK hD
 have stD:Step ρ1 H1 (ρ1++[D]) (upd H1 D (.lst [])):=(bu sm).one hD
 have U5:bf G (ρ1++[D]) (upd H1 D (.lst [])) (S1++[.lst []]):=s1.new hD ⟨[],upd_same,au.nil⟩
 have rD:(ρ1++[D])[S1.length]? =some D:=by rw [← Bp];simp
 generalize Ep:(fun (x:Vl) (S2:Hs)=>match aZ t x (bR η own) with
   | none=>(Res.bad:Res (Option Vl))
   | some η1=>(dB M ci η1 S2).bind fun b S3=>if b=true then (ev M ce η1 S3).bind fun y S4=>.ok (some y) S4 else .ok none S3)=step at h1
 refine ⟨fun i m H'=>m=xs.length - i∧i≤xs.length∧∃ aQ,Step ρ1 H1 (ρ1++[D]) H'∧bf G (ρ1++[D]) H' (S1++[.lst aQ])∧PR G W σ ρ1 H1 ((gJ step lk (xs.drop i) aQ S1).bind fun ys S2=>.ok (.lst ys) S2) (Ci G H0 Q)∧aV S1.length aQ=true,⟨xs.length,by simp,Nat.zero_le _,[],stD,U5,by simpa using h1,by simp [aV]⟩,?_⟩
 rintro i m H' ⟨rfl,hi,aQ,gG,s',h',la⟩
 by_cases hl:i<xs.length
 ·refine .inr ?_
  rw [List.drop_eq_getElem_cons hl] at h'
  simp only [gJ] at h'
  split at h'
  ·rename_i l'
   have l2:cP lk (S1++[.lst aQ]):=fun p hp=>by
    have e:=l' p hp
    rw [List.getElem?_append_left (aJ e)];exact e
   obtain ⟨hgo,hy⟩:=jw.go _ H' _ i xs[i] (Step.x gG) s' l2 (by simp [hl])
   refine ⟨hgo,fun H3=>∃ aQ,Step ρ1 H1 (ρ1++[D]) H3∧bf G (ρ1++[D]) H3 (S1++[.lst aQ])∧PR G W σ ρ1 H1 ((gJ step lk (xs.drop (i+1)) aQ S1).bind fun ys S2=>.ok (.lst ys) S2) (Ci G H0 Q)∧aV S1.length aQ=true,fun H3 a=>⟨xs.length - (i+1),by omega,rfl,by omega,a⟩,fun v H3 y=> ?_⟩
   obtain ⟨sm3,hv⟩:=hy v H3 y
   have lN:Step (ρ1++[D]) H' (ρ1++[D]) H3:=bu sm3
   have s3:=s'.same sm3
   have est:step xs[i] (S1++[.lst aQ])=match aZ t xs[i] (bR η own) with
     | none=>(Res.bad:Res (Option Vl))
     | some η1=>(dB M ci η1 (S1++[.lst aQ])).bind fun b S3=>if b=true then (ev M ce η1 S3).bind fun y S4=>.ok (some y) S4 else .ok none S3:=by rw [← Ep]
   cases eb:aZ t xs[i] (bR η own) with
   | none=>rw [est,eb] at h';exact h'.elim
   | some η2=>
    rw [est,eb] at h'
    simp only at h'
    have er3:ER G (ρ1++[D]) H3 (bR η own) (wipe σ own):=((r1.step gG).step lN).wipe own
    refine ⟨ρ1++[D],S1++[.lst aQ],bR η own,xs[i],η2,s3,er3,hv,eb,fun σ4 of4 r4=>⟨yG of4 ht,ρ1++[D],η2,S1++[.lst aQ],s3,r4,?_⟩⟩
    cases ea:dB M ci η2 (S1++[.lst aQ]) with
    | bad=>rw [ea] at h';exact h'.elim
    | exc x S3=>rw [ea] at h';exact h'.elim
    | ok b S3=>
     rw [ea] at h'
     simp only [Res.bind] at h'
     refine fun ρ5 H5 st5 s5=> ?_
     cases b with
     | false=>
      simp only [Bool.false_eq_true,if_false] at h' ⊢
      by_cases c5:S3=S1++[.lst aQ]∧aQ.length<sizeLine
      ·rw [if_pos c5] at h'
       obtain ⟨rfl,_⟩:=c5
       have e5:ρ5=ρ1++[D]:=o9 st5.pre (by rw [s5.len,← s3.len])
       subst e5
       exact ⟨aQ,(gG.trans lN).trans st5,s5,h',la⟩
      ·rw [if_neg c5] at h';exact h'.elim
     | true=>
      simp only [if_true] at h' ⊢
      refine ⟨ρ5,η2,S3,s5,r4.step st5,?_⟩
      cases ev6:ev M ce η2 S3 with
      | bad=>rw [ev6] at h';exact h'.elim
      | exc x S4=>rw [ev6] at h';exact h'.elim
      | ok y S4=>
       rw [ev6] at h'
       simp only [Res.bind] at h'
       refine fun ρ7 H7 st7 s7 w hw=> ?_
       by_cases c7:S4=S1++[.lst aQ]∧aQ.length<sizeLine
       ·rw [if_pos c7] at h'
        obtain ⟨rfl,hz⟩:=c7
        have e7:ρ7=ρ1++[D]:=o9 (st5.trans st7).pre (by rw [s7.len,← s3.len])
        subst e7
        by_cases ly:y.lim S1.length=true
        ·rw [if_pos ly] at h'
         obtain ⟨vs,g1,g2⟩:=s7.at_ S1.length (.lst aQ) D (by simp) rD
         have nf:∀ od u,H7 D≠some (.frz od u):=fun od u z=>by rw [g1] at z;cases z
         have stE:Step (ρ1++[D]) H7 (ρ1++[D]) (upd H7 D (.lst (vs++[w]))):=⟨List.prefix_refl _,fun b o hb hn=>by
          rw [upd_ne fun e=>hn (by subst e;simp)];exact hb,fun b hb=>.inl hb,o8 nf⟩
         obtain ⟨st8,s8⟩:=bf.put (ho:=.lst (vs++[w])) (o2:=.lst (aQ++[y])) s7 rD nf ⟨vs++[w],upd_same,au.step stE _ _ (g2.append (au.cons hw au.nil))⟩
         refine ⟨vs,g1,by rw [← g2.length];exact hz,aQ++[y],(((gG.trans lN).trans st5).trans st7).trans st8,by simpa using s8,h',?_⟩
         exact nD la ly
        ·rw [if_neg ly] at h';exact h'.elim
       ·rw [if_neg c7] at h';exact h'.elim
  ·exact h'.elim
 ·have e:i=xs.length:=by omega
  subst e
  rw [List.drop_length] at h'
  simp only [gJ] at h'
  split at h'
  ·rename_i l'
   have l2:cP lk (S1++[.lst aQ]):=fun p hp=>by
    have e:=l' p hp
    rw [List.getElem?_append_left (aJ e)];exact e
   refine .inl ⟨jw.stop _ H' _ (Step.x gG) s' l2,?_⟩
   have sc:bf G ρ1 H' S1:=s'.cut Bp s1.Yv
   have Uo:Step ρ1 H1 ρ1 H':=⟨List.prefix_refl _,gG.keep,fun a ha=>.inl ha,gG.fz⟩
   have fin:Ci G H0 Q ρ1 H' (.lst aQ) S1:=h' ρ1 H' Uo sc
   exact fin D hD0 hDn (OR.less (s'.at_ S1.length (.lst aQ) D (by simp) rD) (by rw [Bp];exact la)) s'
  ·exact h'.elim
end
structure Fzd (a:Addr) (H1 H2:Hp):Prop where
 ne:∀ x,x≠a→H2 x=H1 x
 rd:∀ o,(∀ ob w,o≠.frz ob w)→Rd H1 a o→Rd H2 a o
 ins:∀ C dx fs,H1 a≠some (.ins C dx fs)
 xd:∀ fs,H1 a≠some (.xd fs)
section
variable {G:bB} {a:Addr} {ρ:List Addr} {H1 H2:Hp}
theorem Fzd.rd_ (f:Fzd a H1 H2) {x:Addr} {o:HO} (ho:∀ ob w,o≠.frz ob w) (h:Rd H1 x o):Rd H2 x o:=by
 by_cases e:x=a
 ·subst e;exact f.rd o ho h
 ·unfold Rd at h ⊢
  rw [f.ne x e];exact h
mutual
theorem VR.fz (f:Fzd a H1 H2):∀ (x:Vl) (v:V),VR G ρ H1 x v→VR G ρ H2 x v
 | .non,_,h | .bl _,_,h | .int _,_,h | .str _,_,h=>by simpa only [VR] using h
 | .tup xs,v,h=>by
  simp only [VR] at h ⊢
  obtain ⟨p,vs,e,h1,h2⟩:=h
  exact ⟨p,vs,e,h1.imp (fun q=>⟨f.rd_ (by intro _ _ z;cases z) q.1,q.2⟩) id,au.fz f xs vs h2⟩
 | .lst xs,v,h=>by
  simp only [VR] at h ⊢
  obtain ⟨p,vs,e,h1,h2⟩:=h
  exact ⟨p,vs,e,⟨f.rd_ (by intro _ _ z;cases z) h1.1,h1.2⟩,au.fz f xs vs h2⟩
 | .dct ks xs,v,h=>by
  simp only [VR] at h ⊢
  obtain ⟨p,kvs,e,h1,n,h2,h3⟩:=h
  exact ⟨p,kvs,e,f.rd_ (by intro _ _ z;cases z) h1,n,h2,au.fz f xs _ h3⟩
 | .obj c ns xs,v,h=>by
  simp only [VR] at h ⊢
  obtain ⟨p,dx,fs,e,h1,n,h2,h3⟩:=h
  refine ⟨p,dx,fs,e,?_,n,h2,au.fz f xs _ h3⟩
  rw [f.ne p fun z=>by subst z;exact f.ins _ _ _ h1];exact h1
 | .err c ns xs,v,h=>by
  simp only [VR] at h ⊢
  obtain ⟨p,d,e,hg,q⟩:=h
  refine ⟨p,d,e,hg,q.imp id fun ⟨dd,fs,e1,h1,n,h2,h3⟩=>⟨dd,fs,e1,?_,n,h2,au.fz f xs _ h3⟩⟩
  rw [f.ne dd fun z=>by subst z;exact f.xd _ h1];exact h1
 | .ref r,v,h=>by
  simp only [VR] at h ⊢
  exact h
theorem au.fz (f:Fzd a H1 H2):∀ (xs:List Vl) (vs:List V),au G ρ H1 xs vs→au G ρ H2 xs vs
 | [],_,h=>by simpa only [au] using h
 | x::xs,vs,h=>by
  simp only [au] at h ⊢
  obtain ⟨v,r,e,h1,h2⟩:=h
  exact ⟨v,r,e,VR.fz f x v h1,au.fz f xs r h2⟩
end
theorem OR.fz (f:Fzd a H1 H2) {p:Addr} {o:Ob} (ne:p≠a) (h:OR G ρ H1 p o):OR G ρ H2 p o:=by
 cases o with
 | lst xs=>obtain ⟨vs,h1,h2⟩:=h;exact ⟨vs,by rw [f.ne p ne];exact h1,au.fz f _ _ h2⟩
 | dct ks xs=>obtain ⟨vs,h1,h2,h3⟩:=h;exact ⟨vs,by rw [f.ne p ne];exact h1,h2,au.fz f _ _ h3⟩
 | ins c ns xs=>obtain ⟨dx,vs,h1,h2,h3⟩:=h;exact ⟨dx,vs,by rw [f.ne p ne];exact h1,h2,au.fz f _ _ h3⟩
 | Ac ks xs=>obtain ⟨vs,od,h1,h2,h3⟩:=h;exact ⟨vs,od,by rw [f.ne p ne];exact h1,h2,au.fz f _ _ h3⟩
theorem bf.fz {S:Hs} (f:Fzd a H1 H2) (n:a∉ρ) (s:bf G ρ H1 S):bf G ρ H2 S:=⟨s.len,s.nd,fun r o b h1 h2=>(s.at_ r o b h1 h2).fz f fun e=>n (e ▸ List.mem_of_getElem? h2)⟩
theorem ER.fz {η:Sg} {σ:L2.St} (f:Fzd a H1 H2) (r:ER G ρ H1 η σ):ER G ρ H2 η σ:=⟨r.len,fun i x e=>let ⟨v,h1,h2⟩:=r.at_ i x e;⟨v,h1,VR.fz f x v h2⟩⟩
theorem ajN {H:Hp} {kvs:List (Key × V)} {od:Obj} (h:H a=some (.dK kvs)):Fzd a H (upd H a (.frz od (.dK kvs))) where
 ne:=fun x e=>upd_ne e
 rd:=fun o ho q=>by
  rcases q with q | ⟨ob,q⟩
  ·rw [h] at q;cases q;exact .inr ⟨od,upd_same⟩
  ·rw [h] at q;cases q
 xd:=fun _ z=>by rw [h] at z;cases z
 ins:=fun C dx fs q=>by rw [h] at q;cases q
theorem ahd {H:Hp} {kvs:List (Key × V)} {od:Obj} (h:H a=some (.frz od (.dK kvs))):Fzd a H (upd H a (.dK kvs)) where
 ne:=fun x e=>upd_ne e
 rd:=fun o ho q=>by
  rcases q with q | ⟨ob,q⟩
  ·rw [h] at q;cases q;exact absurd rfl (ho _ _)
  ·rw [h] at q;cases q;exact .inl upd_same
 xd:=fun _ z=>by rw [h] at z;cases z
 ins:=fun C dx fs q=>by rw [h] at q;cases q
theorem Z0 {H H':Hp} {ρ':List Addr} {kvs:List (Key × V)} {od:Obj} (h:H a=some (.dK kvs)) (n:a∉ρ) (st:Step ρ (upd H a (.frz od (.dK kvs))) ρ' H'):H' a=some (.frz od (.dK kvs))∧a∉ρ'∧Step ρ H ρ' (upd H' a (.dK kvs)):=by
 have e:=st.keep a _ upd_same n
 refine ⟨e,st.out upd_same n,st.pre,fun b o hb hn=> ?_,fun b hb=> ?_,fun b od' u' hb=> ?_⟩
 ·by_cases c:b=a
  ·subst c;rw [h] at hb;cases hb;exact upd_same
  ·rw [upd_ne c];exact st.keep b o (by rw [upd_ne c];exact hb) hn
 ·rcases st.new b hb with q | q
  ·exact .inl q
  ·refine .inr ?_
   have c:b≠a:=fun c=>by subst c;rw [upd_same] at q;cases q
   rw [upd_ne c] at q;exact q
 ·have c:b≠a:=fun c=>by subst c;rw [h] at hb;cases hb
  rw [upd_ne c]
  exact st.fz b od' u' (by rw [upd_ne c];exact hb)
end
section
variable {G:bB} {M:aF} {W:WX} {X:Cx} {k:Nat}
def tSI (G:bB) (i:Nat):TI:=fun σ H R=>∃ (ρ:List Addr) (S:Hs) (a:Addr) (od:Obj) (kvs:List (Key × V)) (ks:List Key) (xs:List Vl),bf G ρ H S∧H a=some (.frz od (.dK kvs))∧a∉ρ∧σ[i]? =some (some (.ref a))∧kvs.map (·.1)=ks∧au G ρ H xs (kvs.map (·.2))∧∀ J,JW G J ρ H [] (bQ ks xs)→R J H
theorem K9:∀ {ks:List Key} {xs:List Vl} {i:Nat} {x:Vl},(bQ ks xs)[i]? =some x→∃ kk y,ks[i]? =some kk∧xs[i]? =some y∧x=.tup [match kk with | .inl i=>.int i | .inr s=>.str s,y]
 | [],_,_,_,e=>by simp [bQ] at e
 | _::_,[],_,_,e=>by simp [bQ] at e
 | kk::ks,y::xs,0,z,e=>by simp [bQ] at e;exact ⟨kk,y,rfl,rfl,e.symm⟩
 | kk::ks,y::xs,i+1,z,e=>by
  simp only [bQ,List.getElem?_cons_succ] at e ⊢
  exact K9 e
theorem Hg:∀ {ks:List Key} {xs:List Vl},(bQ ks xs).length=min ks.length xs.length
 | [],_=>by simp [bQ]
 | _::_,[]=>by simp [bQ]
 | x::xs,y::ys=>by simp only [bQ,List.length_cons,Hg];omega
theorem JW.items {ρ:List Addr} {H:Hp} {a:Addr} {od:Obj} {kvs:List (Key × V)} {ks:List Key} {xs:List Vl} (ha:H a=some (.frz od (.dK kvs))) (n:a∉ρ) (hk:kvs.map (·.1)=ks) (hv:au G ρ H xs (kvs.map (·.2))):JW G (Iti a od kvs) ρ H [] (bQ ks xs) where
 go:=fun ρ' H' S i x st s l e=>by
  obtain ⟨kk,y,e1,e2,rfl⟩:=K9 e
  have lk:i<kvs.length:=by rw [← hk] at e1;simpa using aJ e1
  have ha':=st.keep a _ ha n (by intro φ q;cases q)
  refine ⟨⟨ha',lk⟩,fun v H2 ⟨T,k',v',ek,ev,hT,eH⟩=> ?_⟩
  subst ev eH
  have ek1:k'=kk:=by
   rw [← hk,List.getElem?_map,ek] at e1
   simpa using e1
  subst ek1
  have hv':=(au.fQ st _ _ hv).at_ e2 (v:=v') (by rw [List.getElem?_map,ek];rfl)
  exact Em s hT (by cases k'<;>simp only [VR,kV]) hv'
 stop:=fun ρ' H' S st s l=>by
  have ha':=st.keep a _ ha n (by intro φ q;cases q)
  refine ⟨ha',?_⟩
  rw [Hg,← hk,List.length_map,hv.length,List.length_map]
  exact Nat.le_of_eq (Nat.min_self _).symm
theorem Ze {i kk:Nat} {x:Str} {px cH oZ uQ:Pos} {t7:List Expr} (hN:X.N[i]? =some x) (hv:Vis X.env.scope x) (hd:(x==("__debug__":Str))=false) (Ba:(x==("__classdict__":Str))=false) (fM:attributeBase (.Name x px) "items" X.env (eval (.Name x px) X.env)=eval (.Name x px) X.env:=by rfl) (fL:(cH.endLine==oZ.line)=true:=by rfl) :
  PI X (.Tuple t7 kk uQ) (.Call (.Attribute (.Name x px) "items" cH) [] [] oZ) (tSI G i):=(pi_items (pe_var hN hv hd Ba) fM fL).imp fun σ H R ⟨ρ,S,a,od,kvs,ks,xs,s,ha,n,hσ,hk,hv,q⟩=>⟨_,hσ,a,od,kvs,rfl,ha,q _ (JW.items ha n hk hv)⟩
theorem afO {own:List Nat} {ce:E} {t:Tg} {i:Nat} {ci:Es} (ht:∀ i∈t.slots,i∈own) {σ:L2.St} {ρ:List Addr} {H:Hp} {Q:VK} {η:Sg} {S:Hs} (s:bf G ρ H S) (r:ER G ρ H η σ) (h:PR G W σ ρ H (d9 M (.yH own ce t i ci) η S) (Ci G H Q)) :
  (∃ a kvs,H a=some (.dK kvs)∧∀ od,tLc (tSI G i) (tG G t) (xW G M WF ci) (tE G M WF ce) own σ (upd H a (.frz od (.dK kvs))) (fun v H'=>H' a=some (.frz od (.dK kvs))∧Q v (upd H' a (.dK kvs))))∨tLc (tSI G i) (tG G t) (xW G M WF ci) (tE G M WF ce) own σ H Q:=by
 simp only [d9] at h
 split at h
 ·rename_i ks xs eη
  obtain ⟨v,e1,hv⟩:=r.at_ i _ eη
  simp only [VR] at hv
  obtain ⟨a,kvs,rfl,ha,n,hk,xO⟩:=hv
  rcases ha with ha | ⟨od,ha⟩
  ·refine .inl ⟨a,kvs,ha,fun od=> ?_⟩
   have f:=ajN (od:=od) ha
   have hf:(upd H a (.frz od (.dK kvs))) a=some (.frz od (.dK kvs)):=upd_same
   refine ⟨ρ,S,a,od,kvs,ks,xs,s.fz f n,hf,n,e1,hk,au.fz f _ _ xO,fun J jw=> ?_⟩
   suffices hlc:tLc (fun _ H R=>R J H) (tG G t) (xW G M WF ci) (tE G M WF ce) own σ (upd H a (.frz od (.dK kvs))) (fun v H'=>H' a=some (.frz od (.dK kvs))∧Q v (upd H' a (.dK kvs))) from hlc
   refine afp (W:=W) (H0:=upd H a (.frz od (.dK kvs))) ht (fun p z=>z) (s.fz f n) (r.fz f) ?_ jw
   generalize XJ:((gJ _ [] (bQ ks xs) [] S).bind fun ys S2=>(.ok (.lst ys) S2:Res Ob))=res at h ⊢
   cases res with
   | ok o S'=>
    intro ρ' H' st s' p hp hn ho hs
    obtain ⟨q1,q2,q3⟩:=Z0 ha n st
    have f':=ahd q1
    have np:p≠a:=fun z=>by subst z;rw [hf] at hp;cases hp
    have hHp:H p=none:=by rw [upd_ne np] at hp;exact hp
    exact ⟨q1,h ρ' _ q3 (s'.fz f' q2) p hHp hn (ho.fz f' np) (hs.fz f' (by simp [q2,Ne.symm np]))⟩
   | exc x S'=>
    exfalso
    revert XJ
    have nox:∀ (step:Vl→Hs→Res (Option Vl)) (lk:List Lk) (xs aQ:List Vl) (S:Hs) (x:Xc) (S':Hs),gJ step lk xs aQ S≠.exc x S':=by
     intro step lk xs
     induction xs with
     | nil=>intro aQ S x S';simp only [gJ];split<;>simp
     | cons y ys ih=>
      intro aQ S x S'
      simp only [gJ]
      split
      ·split
       ·split
        ·split
         ·split
          ·exact ih _ _ _ _
          ·simp
         ·exact ih _ _ _ _
        ·simp
       ·simp
      ·simp
    intro XJ
    cases ec:gJ _ [] (bQ ks xs) [] S with
    | ok ys S2=>rw [ec] at XJ;cases XJ
    | exc x S2=>exact nox _ _ _ _ _ _ _ ec
    | bad=>rw [ec] at XJ;cases XJ
   | bad=>exact h.elim
  ·refine .inr ⟨ρ,S,a,od,kvs,ks,xs,s,ha,n,e1,hk,xO,fun J jw=> ?_⟩
   have hlc:tLc (fun _ H R=>R J H) (tG G t) (xW G M WF ci) (tE G M WF ce) own σ H Q:=afp (W:=W) (H0:=H) ht (fun p z=>z) s r h jw
   exact hlc
 ·exact h.elim
theorem Xw {iJ:Expr} {jZ:List Expr} {scope:Scope} {own:List (Str × Nat)} {pos:Pos} {ce:E} {t:Tg} {ci:Es} [bT G X] (g:Good G k X) {i j kk:Nat} {x y:Str} {px py acb cH oZ uQ:Pos} {t7:List Expr} (hy:X.N[i]? =some y) (hyl:X.env.scope.names.lookup y=some .local)
  (hsw:swapsWith (.ListComp iJ [⟨.Tuple t7 kk uQ,.Call (.Attribute (.Name x px) "items" cH) [] [] oZ,jZ,0⟩] scope pos) (some (.Name y py)) acb.line X.env=pure true) (yg:∀ i∈t.slots,i∈own.map (·.2)) (hN:X.N[j]? =some x) (hv:Vis X.env.scope x) (hd:(x==("__debug__":Str))=false) (Ba:(x==("__classdict__":Str))=false) (ok:BlkOk X.N X.env.scope scope own)
  (hg:∀ (s:Shared) (H:Hp) (C:Addr) (cl:List (Str × Addr)) (fp:List Addr),PG (X.blk s H scope (compEnvC scope cl C X.env) fp) (.Tuple t7 kk uQ) (tG G t)) (ht:∀ (s:Shared) (H:Hp) (C:Addr) (cl:List (Str × Addr)) (fp:List Addr),PTs (X.blk s H scope (compEnvC scope cl C X.env) fp) jZ (xW G M WF ci))
  (he:∀ (s:Shared) (H:Hp) (C:Addr) (cl:List (Str × Addr)) (fp:List Addr),PE (X.blk s H scope (compEnvC scope cl C X.env) fp) iJ (tE G M WF ce)) (fM:attributeBase (.Name x px) "items" X.env (eval (.Name x px) X.env)=eval (.Name x px) X.env:=by rfl) (fL:(cH.endLine==oZ.line)=true:=by rfl) (hs:∀ z,foldedSetIterable (.Call (.Attribute (.Name x px) "items" cH) [] [] oZ) X.env z=pure z:=by intro _;rfl) (fr:Bool) :
  PS X (.Assign [.Name y py] (.ListComp iJ [⟨.Tuple t7 kk uQ,.Call (.Attribute (.Name x px) "items" cH) [] [] oZ,jZ,0⟩] scope pos) acb) (tC G M W (.asg (.nm i) (if fr then .inl (.yH (own.map (·.2)) ce t j ci) else .CG (.yH (own.map (·.2)) ce t j ci)))):=by
 have hp:=ps_setLc g.calm g.nd hy hyl hsw (Ze (G:=G) hN hv hd Ba fM fL) ok hg ht he hs
 refine ⟨fun pins s0 σ H D I ⟨ρ,η,S,s,r,h⟩=> ?_⟩
 have h2:PR G W σ ρ H (d9 M (.yH (own.map (·.2)) ce t j ci) η S) (Ci G H fun v H'=>D.nx (σ.set i (some v)) H'):=by
  cases fr with
  | true=>
   simp only [if_true,aP,ev,aZ] at h
   cases eo:d9 M (.yH (own.map (·.2)) ce t j ci) η S with
   | ok o S1=>
    rw [eo] at h
    exact fun ρ1 H1 st s1 p hp hn ho hs=>h ρ1 H1 _ st s1 ((r.step st).set i (ho.inl hn))
   | exc x S1=>rw [eo] at h;exact fun ρ1 H1 st s1=>h ρ1 H1 σ st s1 (r.step st)
   | bad=>rw [eo] at h;exact h
  | false=>
   simp only [Bool.false_eq_true,if_false,aP,ev,aZ] at h
   cases eo:d9 M (.yH (own.map (·.2)) ce t j ci) η S with
   | ok o S1=>
    rw [eo] at h
    exact fun ρ1 H1 st s1 p hp hn ho hs=>h (ρ1++[p]) H1 _ (st.one hp) hs ((r.step (st.one hp)).set i (by simp only [VR];exact ⟨p,rfl,by rw [← s1.len];simp⟩))
   | exc x S1=>rw [eo] at h;exact fun ρ1 H1 st s1=>h ρ1 H1 σ st s1 (r.step st)
   | bad=>rw [eo] at h;exact h
 rcases afO yg s r h2 with ⟨a,kvs,ha,q⟩ | q
 ·exact (ps_lock hp).run pins s0 σ H D I ⟨a,.dK kvs,ha,True.intro,q⟩
 ·exact hp.run pins s0 σ H D I q
end
end Oz
namespace Oz
open PySem L2 PyProof.Rows PySem.Spec
def relS (scope sc:Scope):Scope:={ scope with names:=scope.names.map fun (n,k)=>if (k==.free&&sc.kind==.function&&sc.names.lookup n==some .cell) then (n,.cell) else (n,k) }
section
variable {G:bB} {k n:Nat} {X:Cx} {M:aF} {W:WX} {f:Addr} {fd:FuncData} {ps:List Str} {c x:Str} {p pos:Pos} {dxs:List Vl} {dvs:List V} {mv:List Value} {cs:Es}
theorem Og:PE X (.Dict [] [] pos) (tF G M W (.xR [] .nil)):=pe_dnewK.imp fun σ H Q ⟨ρ,η,S,s,r,h⟩ q hq=>by
 simp only [d9,evs,aV,List.nodup_nil,List.length_nil,true_and,and_true,if_true,Nat.zero_le] at h
 exact jD s (Step.refl _ _) s h hq fun ρ' gG=>⟨[],upd_same,rfl,au.nil⟩
theorem aed [bT G X] (g:Good G (k+1) X) (F:qu X.prog X.w X.K X.mg X.base k f fd ps (spI G M (0+1+dxs.length) (dot c "__init__"))) (mk:Mk X.K (G.cl c) f) (hg:Gl X x) (hm:X.mg x=some (.ref (G.cl c))) (hb:KBn X.K fd ps (0+1) [] (fun us ws=>us++ws++mv) (fun vs zs=>vs++zs++dvs)) (hc:Bg G dxs dvs) (tk:Takes X W)
  (sX:(x==("__debug__":Str))=false:=by decide) :
  PE X (.Call (.Name x p) [] [] pos) (tF G M W (.new c ((Es.nil:Es).app dxs))):=by
 refine ⟨fun pins s σ H Q I h0=> ?_⟩
 obtain ⟨ρ,η,S,s0,r,h⟩:=h0
 have h1:PR G W σ ρ H (Cq S (M.cal (dot c "__init__") (.ref S.length::dxs) (S++[.ins c [] []]))) (Ci G H Q):=by
  simp only [d9] at h
  rw [qC] at h
  simpa only [evs,Res.bind,List.nil_append] using h
 refine wpAny_Call_Name_kw (ld_glob I hg hm ?_ sX)
 refine PySem.W.callWith_K0 (first:=[]) I.kIn mk.kp ?_
 refine W8 (ks:=[]) (us:=[]) (vs:=[]) (ws:=[]) (zs:=[]) mk F g.rm g.N7 hb tk I .nil .nil rfl rfl fun y dx hy Zk ne=> ?_
 exact S9 s0 (Step.refl _ _) s0 hy Zk ne (hc _ _) (by omega) h1
theorem nw0 [bT G X] (g:Good G (k+1) X) (cm:Mak X.prog X.w X.K X.mg X.base G M k x c 0 [] dxs) (tk:Takes X W) (hcs:cs=(Es.nil:Es).app dxs:=by simp only [Es.app,Es.cat]<;>rfl) (hg:Gl X x:=by rfl) (sX:(x==("__debug__":Str))=false:=by decide):PE X (.Call (.Name x p) [] [] pos) (tF G M W (.new c cs)):=by
 obtain ⟨f,fd,ps,mv,dvs,F,mk,hm,hb,hc⟩:=cm.ex
 subst hcs
 exact aed g F mk hg hm hb hc tk sX
end
section
variable {K:PySem.W.Frag} {x bF:Str} {params:Arguments} {body:List Stmt} {scope:Scope} {dvs:List V} {kws:List (Str × V)} {f:Addr} {fd:FuncData} {ps:List Str}
theorem ajM (F:FunD K x bF params body scope dvs [] f fd) (hd:dvs≠[]) (n j:Nat)
  (h:∀ (T:Addr) (kV xJ pm:Value) (an:Option Addr) (cI ct:Value) (us its:List Value),us.length=n→its.length=dvs.length→
   ∃ k,bindArgs (PySem.W.fnOf x bF params body scope (.ref T) kV xJ pm an cI ct) ⟨us,[]⟩=seqItems? (.ref T)>>=k∧k (some its.toArray)=pure (ps.zip (us++its.drop j))):∃ mv,KBn K fd ps n [] (fun us ws=>us++ws++mv) (fun vs zs=>vs++zs++dvs.drop j):=by
 obtain ⟨oc,od,dV,kV,xJ,pm,an,cI,ct,Xx,rfl,lk,Ba,hD,hK⟩:=F.ex
 rcases hD with ⟨e,_⟩ | ⟨_,T,o,its,m,rfl,lT,oT,rT⟩
 ·exact absurd e hd
 ·refine ⟨its.drop j,⟨fun s us ws X l1 l2=> ?_,fun r1 r2=>(r1.append r2).append (rT.drop _)⟩⟩
  have ew:ws=[]:=List.eq_nil_of_length_eq_zero l2
  subst ew
  obtain ⟨k,e1,e2⟩:=h T kV xJ pm an cI ct us its l1 rT.length.symm
  refine BindsTo.of_looks fun M=> ?_
  show PySem.W.Looks M s.heap (bindArgs _ ⟨us,[]⟩) (ps.zip (us++[]++its.drop j))
  rw [e1,List.append_nil]
  exact looks_items X lT oT (.of_pure e2)
theorem aad {st:Stmt} {oc:Value} {od an odT:Option Addr} {Xx slT:Array (Option Value)} {kV xJ pm cI ct:Value} {T:Addr} {its:Array Value} {nT:Nat} (l:K.lookup f=some ⟨oc,od,.func (PySem.W.fnOf x bF (defArgs st) (defBody st) (defScope st) (.ref T) kV xJ pm an cI ct),Xx⟩)
  (c:PySem.W.codeIn K cI bF=true) (k:PySem.W.keepIn K (.ref f)=true) (lT:K.lookup T=some ⟨.type "tuple",odT,.seq its nT,slT⟩) (rT:Vals dvs its.toList) (Lh:dvs≠[]) (hk:KwdV K kV kws):FunD K x bF (defArgs st) (defBody st) (defScope st) dvs kws f (PySem.W.fnOf x bF (defArgs st) (defBody st) (defScope st) (.ref T) kV xJ pm an cI ct):=
 ⟨⟨oc,od,.ref T,kV,xJ,pm,an,cI,ct,Xx,rfl,l,c,.inr ⟨Lh,T,_,its.toList,nT,rfl,lT,by simp,rT⟩,hk⟩,k⟩
end
end Oz
namespace Oz
open PySem L2
section
variable {M:aF} {c:C} {cs:Cs} {a b e o1 i1 o2 i2:E} {es:Es} {f:F} {t:Tg} {s:Src} {η η1 η2:Sg} {S S1 S2 S3 S4 S5 T T2:Hs} {x y z k k2 x2 v:Vl} {o:Ob} {r:Out} {xs ys:List Vl} {i:Nat}
theorem ajn {m n:Int} (hi:η[i]? =some (some (.int m))) (h:ev M e η S=.ok (.int n) S1):aP M (.aug i .Add e) η S=.nx (η.set i (some (.int (m+n)))) S1:=by simp only [aP,hi,h,Res.out]
theorem ZL {q:Nat} {cl:Str} {ns:List Str} {vs:List Vl} {m:Str} (h:ev M e η S=.ok y S1) (ha:ev M a η S1=.ok (.ref q) S2) (hq:S2[q]? =some (.ins cl ns vs)) (hl:ns.length<1000):aP M (.fset a m e) η S=.nx η (S2.set q (.ins cl (Ez ns vs m y).1 (Ez ns vs m y).2)):=by
 simp only [aP,h,ha,Res.out,hq,if_pos hl]
theorem rE (h:ev M e η S=.ok y S1) (ho:ev M a η S1=.ok x S2) (hi:ev M b η S2=.ok k S3) (hs:sU S3 x k y=some T):aP M (.uH a b e) η S=.nx η T:=by
 simp only [aP,h,ho,hi,Res.out,hs]
theorem adm (h:ev M e η S=.ok (.tup [y,z]) S1) (ho:ev M o1 η S1=.ok x S2) (hi:ev M i1 η S2=.ok k S3) (hs:sU S3 x k y=some T) (ho2:ev M o2 η T=.ok x2 S4) (R9:ev M i2 η S4=.ok k2 S5) (CJ:sU S5 x2 k2 z=some T2):aP M (.Vc o1 i1 o2 i2 e) η S=.nx η T2:=by
 simp only [aP,h,ho,hi,Res.out,hs,ho2,R9,CJ]
theorem ajY {j:Nat} (ha:ev M a η S=.ok x S1) (hb:ev M b η S1=.ok y S2):aP M (.par i j a b) η S=.nx ((η.set i (some x)).set j (some y)) S2:=by simp only [aP,ha,hb,Res.out]
theorem aiy {test:E} {body:Cs} (h:Ew (fun η1 S2=>ev M test η1 S2) (fun η1 S2=>exec M body η1 S2) M.fuel η S=r):aP M (.whl test body) η S=r:=by simp only [aP,h]
theorem Lj {p q:CmpOp} {d1 d2:Bool} (ha:ev M a η S=.ok x S1) (hb:ev M b η S1=.ok y S2) (hp:cmpop p S2 x y=some true) (hc:ev M e η S2=.ok z S3) (hq:cmpop q S3 y z=some d2):ev M (.Rq p q a b e) η S=.ok (.bl d2) S3:=by
 simp only [ev,ha,hb,Res.bind,gY,hp,if_true,hc,hq]
theorem O3 (ha:ev M a η S=.ok (.bl true) S1):ev M (.bor a b) η S=.ok (.bl true) S1:=by simp only [ev,ha,Res.bind]
theorem ajg {m n:Int} (ha:ev M a η S=.ok (.int m) S1) (hb:ev M b η S1=.ok (.int n) S2):ev M (.mn a b) η S=.ok (.int (if n<m then n else m)) S2:=by simp only [ev,ha,hb,Res.bind]
theorem aj3 {out:Str} (h:evs M es η S=.ok xs S1) (ho:rB xs Str.empty=some out):ev M (.fs es) η S=.ok (.str out) S1:=by simp only [ev,h,Rr,Res.bind,gY,ho]
theorem WM {cl:Str} {w:Str} (ha:ev M a η S=.ok x S1) (hm:lF S1 x cl "__repr__"=true) (hc:M.cal (dot cl "__repr__") [x] S1=.ok (.val (.str w)) S2):ev M (.K7 cl a) η S=.ok (.str w) S2:=by
 simp only [ev,ha,hm,Res.bind,qj,hc,if_true,Rr,Rv.v]
theorem Uw {cl:Str} {ns:List Str} {vs:List Vl} (ha:ev M a η S=.ok x S1) (h:lJ S1 x=some (cl,ns,vs)):ev M (.isC cl a) η S=.ok (.bl true) S1:=by simp only [ev,ha,Res.bind,h,if_true]
theorem ajh {cl:Str} {o:Ob} (hs:evs M es η S=.ok xs S1) (hS:NR S1) (hc:M.cal (dot cl "__init__") (.ref S1.length::xs) (S1++[.ins cl [] []])=.ok (.val .non) (S1++[o])) (ho:o.nr=true):d9 M (.new cl es) η S=.ok o S1:=by
 simp only [d9,hs,Res.bind,hc]
 exact XS hS ho
theorem R4 (ha:ev M a η S=.ok x S1) (hx:Ak S1 x=some xs):d9 M (.YG a) η S=.ok (.lst xs) S1:=by simp only [d9,ha,Res.bind,hx]
theorem TX (ha:ev M a η S=.ok x S1) (hx:Et S1 x=some xs):d9 M (.XR a) η S=.ok (.lst xs) S1:=by simp only [d9,ha,Res.bind,hx]
theorem Ij:d9 M (.xR [] .nil) η S=.ok (.dct [] []) S:=by
 simp only [d9,evs,aV,List.nodup_nil,List.length_nil,true_and,and_true,if_true,Nat.zero_le]
theorem aa1 {ks:List Key} {vs:List Vl} (h:evs M es η (S++[.dct [] []])=.ok vs (S++[.dct [] []])) (hn:dH vs=true) (hd:ks.Nodup) (hl:ks.length=vs.length) (h15:ks.length≤15):d9 M (.xR ks es) η S=.ok (.dct ks vs) S:=by
 simp only [d9,h]
 rw [if_pos ⟨trivial,mG _ _ hn,hd,hl,h15⟩]
theorem Hq {st:Int} {lk:List Lk} (h:ev M e η S=.ok v S1) (hv:lZ S1 v=some (lk,xs)):pC M (.Y6 e st) η S=.ok (lk,iH st xs) S1:=by simp only [pC,h,Res.bind,gY,hv]
end
theorem Z6 {test:Sg→Hs→Res Vl} {body:Sg→Hs→Out} (I:Nat→Sg→Hs→Prop)
  (hs:∀ m η S,I (m+1) η S→test η S=.ok (.bl true) S∧∃ η2 S2,body η S=.nx η2 S2∧I m η2 S2) (h0:∀ η S,I 0 η S→test η S=.ok (.bl false) S):∀ (m fuel:Nat) (η:Sg) (S:Hs),m<fuel→I m η S→∃ η2 S2,Ew test body fuel η S=.nx η2 S2∧I 0 η2 S2
 | m,0,η,S,h,_=>by omega
 | 0,fuel+1,η,S,h,i=>⟨η,S,by unfold Ew;rw [h0 η S i],i⟩
 | m+1,fuel+1,η,S,h,i=>by
  obtain ⟨h1,η2,S2,h2,i2⟩:=hs m η S i
  obtain ⟨η3,S3,h3,i3⟩:=Z6 I hs h0 m fuel η2 S2 (by omega) i2
  exact ⟨η3,S3,by unfold Ew;rw [h1];simp only [h2,h3],i3⟩
section
variable {M:aF} {own:List Nat} {iJ ke ve:E} {t:Tg} {s:Src} {η:Sg} {S S1:Hs} {lk:List Lk} {xs:List Vl}
theorem fO (lk:List Lk) (xs:List Vl) (f:Vl→Vl) (h:pC M s η S=.ok (lk,xs) S1) (hl:cP lk S1) (hz:xs.length≤1000000) (hn:∀ x∈xs,(f x).nr=true)
  (hs:∀ x∈xs,∀ aQ:List Vl,dH aQ=true→∃ η1,aZ t x (bR η own)=some η1∧ev M iJ η1 (S1++[.lst aQ])=.ok (f x) (S1++[.lst aQ])):d9 M (.comp own iJ t s .nil) η S=.ok (.lst (xs.map f)) S1:=by
 rw [Nv lk xs (fun x=>some (f x)) h hl hz (fun x hx y e=>by cases e;exact hn x hx) fun x hx aQ ha=>by
  obtain ⟨η1,h1,h2⟩:=hs x hx aQ ha
  exact ⟨η1,f x,h1,h2,rfl⟩]
 simp
theorem O7 {step:Vl→Hs→Res (Option (Vl × Vl))} (hl:cP lk S) (g:Vl→Key × Vl):∀ (xs:List Vl) (ks:List Key) (vs:List Vl),ks.length+xs.length≤1000000→dH vs=true→(∀ x∈xs,(g x).2.nr=true)→
  (∀ x∈xs,∀ ks vs,dH vs=true→∃ kx,kx.key=some (g x).1∧step x (S++[.dct ks vs])=.ok (some (kx,(g x).2)) (S++[.dct ks vs]))→tM step lk xs ks vs S=.ok (j5 (xs.map g) ks vs) S
 | [],ks,vs,_,_,_,_=>by unfold tM;rw [if_pos hl];rfl
 | x::xs,ks,vs,hz,hv,hn,hs=>by
  obtain ⟨kx,h1,h2⟩:=hs x List.mem_cons_self ks vs hv
  have ny:=hn x List.mem_cons_self
  have Zg:ks.length<sizeLine:=by
   have:(1000000:Nat)<sizeLine:=by decide
   rw [List.length_cons] at hz;omega
  unfold tM
  rw [if_pos hl,h2]
  simp only
  rw [if_pos ⟨trivial,Zg⟩]
  simp only [h1]
  rw [if_pos (Uq _ _ ny)]
  have hk:(putD ks vs (g x).1 (g x).2).1.length≤ks.length+1:=by
   unfold putD
   split<;>simp
  have hr:dH (putD ks vs (g x).1 (g x).2).2=true:=by
   unfold putD
   split
   ·have:∀ (ks:List Key) (vs:List Vl),dH vs=true→dH (mU (g x).1 (g x).2 ks vs)=true:=by
     intro ks
     induction ks with
     | nil=>intro vs _;simp [mU,dH]
     | cons k ks ih=>
      intro vs h
      cases vs with
      | nil=>simp [mU,dH]
      | cons v vs=>
       simp only [dH,Bool.and_eq_true] at h
       simp only [mU,dH,Bool.and_eq_true]
       refine ⟨?_,ih vs h.2⟩
       split
       ·exact ny
       ·exact h.1
    exact this ks vs hv
   ·exact oG hv (by simp only [dH,ny,Bool.and_self])
  rw [List.length_cons] at hz
  rw [O7 hl g xs _ _ (by omega) hr (fun y hy=>hn y (List.mem_cons_of_mem _ hy)) fun y hy=>hs y (List.mem_cons_of_mem _ hy)]
  rfl
theorem Rh (lk:List Lk) (xs:List Vl) (g:Vl→Key × Vl) (h:pC M s η S=.ok (lk,xs) S1) (hl:cP lk S1) (hz:xs.length≤1000000) (hn:∀ x∈xs,(g x).2.nr=true)
  (hs:∀ x∈xs,∀ ks vs,dH vs=true→∃ η1 kx,aZ t x (bR η own)=some η1∧ev M ke η1 (S1++[.dct ks vs])=.ok kx (S1++[.dct ks vs])∧kx.key=some (g x).1∧ev M ve η1 (S1++[.dct ks vs])=.ok (g x).2 (S1++[.dct ks vs])) :
  d9 M (.Ku own ke ve t s .nil) η S=.ok (.dct (j5 (xs.map g) [] []).1 (j5 (xs.map g) [] []).2) S1:=by
 simp only [d9,h,Res.bind]
 rw [O7 hl g xs [] [] (by rw [List.length_nil];omega) (by simp only [dH]) hn fun x hx ks vs hv=>by
  obtain ⟨η1,kx,e1,e2,e3,e4⟩:=hs x hx ks vs hv
  exact ⟨kx,e3,by simp only [e1,dB,if_true,e2,e4,Res.bind]⟩]
theorem abO {i:Nat} {ks:List Key} {vs:List Vl} (f:Vl→Vl) (hi:η[i]? =some (some (.dct ks vs))) (hz:ks.length≤1000000) (hn:∀ x∈bQ ks vs,(f x).nr=true)
  (hs:∀ x∈bQ ks vs,∀ aQ:List Vl,dH aQ=true→∃ η1,aZ t x (bR η own)=some η1∧ev M iJ η1 (S++[.lst aQ])=.ok (f x) (S++[.lst aQ])):d9 M (.yH own iJ t i .nil) η S=.ok (.lst ((bQ ks vs).map f)) S:=by
 have hl:∀ (ks:List Key) (vs:List Vl),(bQ ks vs).length≤ks.length:=by
  intro ks
  induction ks with
  | nil=>intro vs;simp [bQ]
  | cons k ks ih=>
   intro vs
   cases vs with
   | nil=>simp [bQ]
   | cons v vs=>simp only [bQ,List.length_cons];have:=ih vs;omega
 simp only [d9,hi]
 have key:∀ F:Vl→Hs→Res (Option Vl),(∀ x∈bQ ks vs,∀ aQ:List Vl,dH aQ=true→F x (S++[.lst aQ])=.ok (some (f x)) (S++[.lst aQ]))→(gJ F [] (bQ ks vs) [] S).bind (fun ys S2=>Res.ok (Ob.lst ys) S2)=.ok (.lst ((bQ ks vs).map f)) S:=fun F hF=>by
  rw [uP (fun x=>some (f x)) (aU S) (bQ ks vs) [] (by have:=hl ks vs;rw [List.length_nil];omega) (by simp only [dH]) (fun x hx y e=>by cases e;exact hn x hx) hF]
  simp [Res.bind]
 exact key _ fun x hx aQ ha=>by
  obtain ⟨η1,h1,h2⟩:=hs x hx aQ ha
  simp only [h1,dB,if_true,h2,Res.bind]
end
theorem abx {k j:Key} {y:Vl}:∀ {ks:List Key} {vs:List Vl},ks.length=vs.length→cD (putD ks vs k y).1 (putD ks vs k y).2 j=if j=k then some y else cD ks vs j:=by
 have rep:∀ (ks:List Key) (vs:List Vl),ks.length=vs.length→k∈ks→cD ks (mU k y ks vs) j=if j=k then some y else cD ks vs j:=by
  intro ks
  induction ks with
  | nil=>intro vs _ h;cases h
  | cons m ks ih=>
   intro vs hl hk
   cases vs with
   | nil=>simp at hl
   | cons v vs=>
    simp only [mU,cD]
    by_cases c:m=j
    ·subst c
     rw [if_pos rfl]
     by_cases d:m=k
     ·rw [if_pos d,if_pos d]
     ·rw [if_neg d,if_neg d,if_pos rfl]
    ·rw [if_neg c,if_neg c]
     by_cases e:k∈ks
     ·exact ih vs (by simpa using hl) e
     ·-- then k is m
      have em:k=m:=by
       rcases List.mem_cons.mp hk with h | h
       ·exact h
       ·exact absurd h e
      subst em
      rw [if_neg fun h=>c h.symm]
      have aje:∀ (ks:List Key) (vs:List Vl),k∉ks→ks.length=vs.length→mU k y ks vs=vs:=by
       intro ks
       induction ks with
       | nil=>intro vs _ h;cases vs with
        | nil=>rfl
        | cons _ _=>simp at h
       | cons m ks ih2=>
        intro vs h hl
        cases vs with
        | nil=>simp at hl
        | cons v vs=>
         simp only [mU]
         rw [if_neg fun z=>h (by rw [z];exact List.mem_cons_self),ih2 vs (fun z=>h (List.mem_cons_of_mem _ z)) (by simpa using hl)]
      rw [aje ks vs e (by simpa using hl)]
 have app:∀ (ks:List Key) (vs:List Vl),ks.length=vs.length→k∉ks→cD (ks++[k]) (vs++[y]) j=if j=k then some y else cD ks vs j:=by
  intro ks
  induction ks with
  | nil=>
   intro vs hl _
   cases vs with
   | nil=>
    simp only [List.nil_append,cD]
    by_cases c:k=j
    ·rw [if_pos c,if_pos c.symm]
    ·rw [if_neg c,if_neg (Ne.symm c)]
   | cons _ _=>simp at hl
  | cons m ks ih=>
   intro vs hl hk
   cases vs with
   | nil=>simp at hl
   | cons v vs=>
    simp only [List.cons_append,cD]
    by_cases c:m=j
    ·subst c
     rw [if_pos rfl,if_pos rfl,if_neg fun z=>hk (by rw [← z];exact List.mem_cons_self)]
    ·rw [if_neg c,if_neg c]
     exact ih vs (by simpa using hl) fun z=>hk (List.mem_cons_of_mem _ z)
 intro ks vs hl
 unfold putD
 by_cases c:(ks.any fun j=>decide (j=k))=true
 ·rw [if_pos c]
  obtain ⟨m,hm,e⟩:=List.any_eq_true.mp c
  have e:=of_decide_eq_true e
  subst e
  exact rep ks vs hl hm
 ·rw [if_neg c]
  refine app ks vs hl fun z=>c (List.any_eq_true.mpr ⟨k,z,decide_eq_true rfl⟩)
theorem MP {k:Key} {y:Vl} {ks:List Key} {vs:List Vl} (h:ks.length=vs.length):(putD ks vs k y).1.length=(putD ks vs k y).2.length∧(putD ks vs k y).1.length≤ks.length+1:=by
 have rl:∀ (ks:List Key) (vs:List Vl),ks.length=vs.length→(mU k y ks vs).length=vs.length:=by
  intro ks
  induction ks with
  | nil=>intro vs h;cases vs with
   | nil=>rfl
   | cons _ _=>simp at h
  | cons m ks ih=>intro vs h;cases vs with
   | nil=>simp at h
   | cons v vs=>simp only [mU,List.length_cons];rw [ih vs (by simpa using h)]
 unfold putD
 split
 ·exact ⟨by rw [rl ks vs h];exact h,Nat.le_succ _⟩
 ·simp [h]
theorem Qc {k:Key}:∀ {ks:List Key} {vs:List Vl},ks.length=vs.length→(ks.any fun j=>decide (j=k))=(cD ks vs k).isSome
 | [],[],_=>rfl
 | [],_::_,h=>by simp at h
 | _::_,[],h=>by simp at h
 | m::ks,v::vs,h=>by
  simp only [List.any_cons,cD]
  by_cases c:m=k
  ·rw [if_pos c,decide_eq_true c];simp
  ·rw [if_neg c,decide_eq_false c,Bool.false_or]
   exact Qc (by simpa using h)
theorem uf {k:Key} {y:Vl} {ks:List Key} {vs:List Vl} (h:k∉ks):putD ks vs k y=(ks++[k],vs++[y]):=by
 unfold putD
 rw [if_neg]
 intro z
 obtain ⟨m,hm,e⟩:=List.any_eq_true.mp z
 exact h (of_decide_eq_true e ▸ hm)
theorem w6:∀ {ps:List (Key × Vl)} {ks:List Key} {vs:List Vl},(ks++ps.map (·.1)).Nodup→j5 ps ks vs=(ks++ps.map (·.1),vs++ps.map (·.2))
 | [],ks,vs,_=>by simp [j5]
 | p::ps,ks,vs,h=>by
  have hp:p.1∉ks:=fun z=>(List.nodup_append.mp h).2.2 p.1 z p.1 (by simp) rfl
  simp only [j5,uf hp]
  rw [w6 (by simpa using h)]
  simp
def Dm (ks:List Key) (vs:List Vl) (m:Int→Option Int):Prop:=ks.length=vs.length∧dH vs=true∧∀ t:Int,cD ks vs (Sum.inl t)=(m t).map Vl.int
theorem Dm.put {ks:List Key} {vs:List Vl} {m:Int→Option Int} (h:Dm ks vs m) (t y:Int):Dm (putD ks vs (Sum.inl t) (.int y)).1 (putD ks vs (Sum.inl t) (.int y)).2 fun u=>if u=t then some y else m u:=by
 refine ⟨(MP h.1).1,?_,fun u=> ?_⟩
 ·unfold putD
  split
  ·have:∀ (ks:List Key) (vs:List Vl),dH vs=true→dH (mU (Sum.inl t) (.int y) ks vs)=true:=by
    intro ks
    induction ks with
    | nil=>intro vs _;simp [mU,dH]
    | cons k ks ih=>intro vs h;cases vs with
     | nil=>simp [mU,dH]
     | cons v vs=>
      simp only [dH,Bool.and_eq_true] at h
      simp only [mU,dH,Bool.and_eq_true]
      refine ⟨?_,ih vs h.2⟩
      split
      ·simp [Vl.nr]
      ·exact h.1
   exact this ks vs h.2.1
  ·exact oG h.2.1 (by simp [dH,Vl.nr])
 ·rw [abx h.1]
  by_cases c:u=t
  ·subst c;rw [if_pos rfl];simp
  ·rw [if_neg (fun z=>c (Sum.inl.inj z))];simp only [if_neg c];exact h.2.2 u
theorem Dm.mem {ks:List Key} {vs:List Vl} {m:Int→Option Int} (h:Dm ks vs m) (t:Int):(ks.any fun j=>decide (j=Sum.inl t))=(m t).isSome:=by
 rw [Qc h.1,h.2.2 t,Option.isSome_map]
theorem Dm.nil:Dm [] [] fun _=>none:=⟨rfl,by simp only [dH],fun t=>rfl⟩
theorem Dm.congr {ks:List Key} {vs:List Vl} {m m':Int→Option Int} (h:Dm ks vs m) (e:∀ t,m t=m' t):Dm ks vs m':=⟨h.1,h.2.1,fun t=>by rw [h.2.2 t,e t]⟩
theorem aaV {S:Hs} {v:Vl} {ks:List Key} {vs:List Vl} {t:Int} (h:aX S v=some (ks,vs)):lX S (.int t) v=some (ks.any fun j=>decide (j=Sum.inl t)):=by
 cases v with
 | str z=>simp [aX] at h
 | dct a b=>unfold lX;simp only [h];rfl
 | ref r=>unfold lX;simp only [h];rfl
 | _=>simp [aX] at h
theorem Ym {S:Hs} {v:Vl} {ks:List Key} {vs:List Vl} {t:Str} (h:aX S v=some (ks,vs)):lX S (.str t) v=some (ks.any fun j=>decide (j=Sum.inr t)):=by
 cases v with
 | str z=>simp [aX] at h
 | dct a b=>unfold lX;simp only [h];rfl
 | ref r=>unfold lX;simp only [h];rfl
 | _=>simp [aX] at h
theorem Ul {S:Hs} {v:Vl} {ks:List Key} {vs:List Vl} {t:Int} (h:aX S v=some (ks,vs)):dM S v (.int t)=cD ks vs (Sum.inl t):=by
 cases v with
 | str z=>simp [aX] at h
 | dct a b=>unfold dM;simp only [h];rfl
 | ref r=>unfold dM;simp only [h];rfl
 | _=>simp [aX] at h
theorem adp {S:Hs} {v:Vl} {ks:List Key} {vs:List Vl} {t:Str} (h:aX S v=some (ks,vs)):dM S v (.str t)=cD ks vs (Sum.inr t):=by
 cases v with
 | str z=>simp [aX] at h
 | dct a b=>unfold dM;simp only [h];rfl
 | ref r=>unfold dM;simp only [h];rfl
 | _=>simp [aX] at h
theorem jP {S:Hs} {r:Nat} {ks:List Key} {vs:List Vl} {k y:Vl} {kk:Key} (h:S[r]? =some (.dct ks vs)) (hk:k.key=some kk) (hl:ks.length≤1000000):sU S (.ref r) k y=some (S.set r (.dct (putD ks vs kk y).1 (putD ks vs kk y).2)):=by
 unfold sU
 simp only [h,hk]
 rw [if_pos (Nat.lt_of_le_of_lt hl (by decide))]
theorem Q7 {S:Hs} {r:Nat} {xs:List Vl} {i:Nat} {y:Vl} (h:S[r]? =some (.lst xs)) (hi:i<xs.length):sU S (.ref r) (.int i) y=some (S.set r (.lst (xs.set i y))):=by
 have e:ixN xs.length (i:Int)=some i:=by
  unfold ixN
  rw [if_pos (by omega),if_pos (by omega),Int.toNat_natCast]
 unfold sU
 simp only [h,e]
end Oz
namespace Oz
open PySem L2 PyProof.Rows
section
variable {G:bB} {ρ:List Addr} {H:Hp}
mutual
theorem VR.Fl (e:Option (Addr × Value × Option Addr)):∀ (x:Vl) (v:V),x.ef=true→VR G ρ H x v→VR { G with er:=e } ρ H x v
 | .non,_,_,h | .bl _,_,_,h | .int _,_,_,h | .str _,_,_,h | .ref _,_,_,h=>by simpa only [VR] using h
 | .tup xs,v,f,h=>by
  simp only [VR] at h ⊢
  simp only [Vl.ef] at f
  obtain ⟨a,vs,e1,h1,h2⟩:=h
  exact ⟨a,vs,e1,h1,au.Fl e xs vs f h2⟩
 | .lst xs,v,f,h=>by
  simp only [VR] at h ⊢
  simp only [Vl.ef] at f
  obtain ⟨a,vs,e1,h1,h2⟩:=h
  exact ⟨a,vs,e1,h1,au.Fl e xs vs f h2⟩
 | .dct ks xs,v,f,h=>by
  simp only [VR] at h ⊢
  simp only [Vl.ef] at f
  obtain ⟨a,vs,e1,h1,hn,hk,h2⟩:=h
  exact ⟨a,vs,e1,h1,hn,hk,au.Fl e xs _ f h2⟩
 | .obj c ns xs,v,f,h=>by
  simp only [VR] at h ⊢
  simp only [Vl.ef] at f
  obtain ⟨a,dx,vs,e1,h1,hn,hk,h2⟩:=h
  exact ⟨a,dx,vs,e1,h1,hn,hk,au.Fl e xs _ f h2⟩
 | .err _ _ _,_,f,_=>by simp [Vl.ef] at f
theorem au.Fl (e:Option (Addr × Value × Option Addr)):∀ (xs:List Vl) (vs:List V),Zh xs=true→au G ρ H xs vs→au { G with er:=e } ρ H xs vs
 | [],_,_,h=>by simpa only [au] using h
 | x::xs,vs,f,h=>by
  simp only [au] at h ⊢
  simp only [Zh,Bool.and_eq_true] at f
  obtain ⟨v,r,e1,h1,h2⟩:=h
  exact ⟨v,r,e1,VR.Fl e x v f.1 h1,au.Fl e xs r f.2 h2⟩
end
theorem OR.Fl (e:Option (Addr × Value × Option Addr)) {a:Addr} {o:Ob} (f:o.ef=true) (h:OR G ρ H a o):OR { G with er:=e } ρ H a o:=by
 cases o with
 | lst xs=>obtain ⟨vs,h1,h2⟩:=h;exact ⟨vs,h1,au.Fl e _ _ f h2⟩
 | dct ks xs=>obtain ⟨vs,h1,hk,h2⟩:=h;exact ⟨vs,h1,hk,au.Fl e _ _ f h2⟩
 | ins c ns xs=>obtain ⟨dx,vs,h1,hk,h2⟩:=h;exact ⟨dx,vs,h1,hk,au.Fl e _ _ f h2⟩
 | Ac ks xs=>obtain ⟨vs,od,h1,hk,h2⟩:=h;exact ⟨vs,od,h1,hk,au.Fl e _ _ f h2⟩
theorem bf.Fl (e:Option (Addr × Value × Option Addr)) {S:Hs} (f:Uy S=true) (s:bf G ρ H S):bf { G with er:=e } ρ H S:=
 ⟨s.len,s.nd,fun r o a h1 h2=>(s.at_ r o a h1 h2).Fl e (List.all_eq_true.mp f o (List.mem_of_getElem? h1))⟩
theorem ER.Fl (e:Option (Addr × Value × Option Addr)) {η:Sg} {σ:L2.St} (f:Y7 η=true) (r:ER G ρ H η σ):ER { G with er:=e } ρ H η σ:=
 ⟨r.len,fun i x h=>let ⟨v,h1,h2⟩:=r.at_ i x h;⟨v,h1,VR.Fl e x v (List.all_eq_true.mp f (some x) (List.mem_of_getElem? h)) h2⟩⟩
theorem bf.NZ (e:Option (Addr × Value × Option Addr)) {S:Hs} (f:Uy S=true) (s:bf { G with er:=e } ρ H S):bf G ρ H S:=bf.Fl (G:={ G with er:=e }) G.er f s
theorem ER.NZ (e:Option (Addr × Value × Option Addr)) {η:Sg} {σ:L2.St} (f:Y7 η=true) (r:ER { G with er:=e } ρ H η σ):ER G ρ H η σ:=ER.Fl (G:={ G with er:=e }) G.er f r
theorem VR.NZ (e:Option (Addr × Value × Option Addr)) {x:Vl} {v:V} (f:x.ef=true) (r:VR { G with er:=e } ρ H x v):VR G ρ H x v:=VR.Fl (G:={ G with er:=e }) G.er x v f r
theorem OR.NZ (e:Option (Addr × Value × Option Addr)) {a:Addr} {o:Ob} (f:o.ef=true) (r:OR { G with er:=e } ρ H a o):OR G ρ H a o:=OR.Fl (G:={ G with er:=e }) G.er f r
end
section
variable {G:bB} {ρ:List Addr} {H:Hp}
mutual
theorem VR.efo (e:G.er=none):∀ (x:Vl) (v:V),VR G ρ H x v→x.ef=true
 | .non,_,_ | .bl _,_,_ | .int _,_,_ | .str _,_,_ | .ref _,_,_=>by simp only [Vl.ef]
 | .tup xs,v,h=>by simp only [VR] at h;obtain ⟨_,vs,_,_,h2⟩:=h;simp only [Vl.ef];exact au.efo e xs vs h2
 | .lst xs,v,h=>by simp only [VR] at h;obtain ⟨_,vs,_,_,h2⟩:=h;simp only [Vl.ef];exact au.efo e xs vs h2
 | .dct ks xs,v,h=>by simp only [VR] at h;obtain ⟨_,vs,_,_,_,_,h2⟩:=h;simp only [Vl.ef];exact au.efo e xs _ h2
 | .obj c ns xs,v,h=>by simp only [VR] at h;obtain ⟨_,_,vs,_,_,_,_,h2⟩:=h;simp only [Vl.ef];exact au.efo e xs _ h2
 | .err c ns xs,v,h=>by
  simp only [VR] at h
  obtain ⟨_,_,_,h1,_⟩:=h
  rw [e] at h1;cases h1
theorem au.efo (e:G.er=none):∀ (xs:List Vl) (vs:List V),au G ρ H xs vs→Zh xs=true
 | [],_,_=>by simp only [Zh]
 | x::xs,vs,h=>by
  simp only [au] at h
  obtain ⟨v,r,_,h1,h2⟩:=h
  simp only [Zh,VR.efo e x v h1,au.efo e xs r h2,Bool.and_self]
end
end
def ahA (K:PySem.W.Frag) (C:Addr) (f:Str):Sp:=fun vs H Q _=>∃ a v,vs=[.ref a,v]∧H a=some (exo a C none)∧∀ d,H d=none→d≠a→Q .non (upd (upd H d (exd d [(f,v)])) a (exo a C (some d)))
structure Rse (P:Program) (w:World) (K:PySem.W.Frag) (mg:Str→Option Value) (base:Heap) (C:Addr) (x f:Str):Prop where
 ex:∃ (fI:Addr) (fd:FuncData) (ps:List Str),FnOk P w K mg base (L2.CX P w) 1 fI fd ps (ahA K C f)∧OexC K C∧PySem.W.findIn K (.ref C) "__init__"=some (some (.ref fI))∧PySem.W.typeIn K (.ref fI)=some (.type "function")∧Binds K fd ps []∧mg x=some (.ref C)
section
variable {G:bB} {M:aF} {W:WX} {X:Cx} {k:Nat} {c f:Str} {a:Expr} {ca:E} {p pos jA:Pos}
end
class Own (X:Cx):Prop where
 stk:X.stack=X.env::X.outer
 frm:X.env.frame=some X.env.locals
instance {G:bB} {X:Cx} {pn:List (Addr × Obj)} {xe:Value→Shared→Prop} [c:bT G X]:bT G (X.tr pn xe):=⟨c.calm,c.hd,c.er⟩
instance {G:bB} {X:Cx} {s:Shared} {H:Hp} {scope:Scope} {ce:Env} {fp:List Addr} [c:bT G X]:bT G (X.blk s H scope ce fp):=⟨c.calm,c.hd,c.er⟩
instance {CX:CXT} {P:Program} {w:World} {K:PySem.W.Frag} {mg:Str→Option Value} {base:Heap} {N:List Str} {bF:Str} {scope:Scope} {f:Addr} {cd:Value} {A:Around} {outer:List Env} {s:Shared} {H:Hp} {E:XK}:Own (cxOf CX P w K mg base N bF scope f cd A outer s H E):=⟨rfl,rfl⟩
instance {X:Cx} {pn:List (Addr × Obj)} {xe:Value→Shared→Prop} [o:Own X]:Own (X.tr pn xe):=⟨o.stk,o.frm⟩
theorem Good.tr {G:bB} {k:Nat} {X:Cx} [bT G X] (g:Good G k X) (pn:List (Addr × Obj)) (xe:Value→Shared→Prop):Good G k (X.tr pn xe):=⟨g.K,g.nd,g.room,g.N7,fun e h=>by rw [bT.er X] at h;cases h⟩
section
variable {G:bB} {M:aF} {W:WX} {X:Cx} {k i:Nat} {x c n:Str} {cb ch:Cs} {body suite:List Stmt} {b₀:Stmt} {np pos wJ:Pos} {cv:Value}
theorem ac1 [bT G X] [ow:Own X] (g:Good G k X) (hi:X.N[i]? =some n) (hln:X.env.kindOf n=some .local) (hc:Names X x cv) (tk:Takes X W)
  (hb:∀ (W':WX) (pn:List (Addr × Obj)) (xe:Value→Shared→Prop),Good G k (X.tr pn xe)→PassesOwn (model X.prog X.w) X.A X.env xe→Takes (X.tr pn xe) W'→PSs (X.tr pn xe) body (vM G M W' cb))
  (hsu:∀ (e:Addr × Value × Option Addr) (pn:List (Addr × Obj)),Good { G with er:=some e } k (X.suite e.1 pn)→PSs (X.suite e.1 pn) (b₀::suite) (vM { G with er:=some e } M WF ch))
  (alg:∀ (d:Str) (b:Bool),M.sub d c=some b→PySem.W.exmOne X.K (.ref (G.xl d)) cv=some b) :
  PS X (.Try body [.ExceptHandler (some (.Name x np)) (some n) (b₀::suite) wJ] [] [] pos) (tC G M W (.try_ cb c i ch)):=by
 refine (ps_try_as (i:=i) (tb:=fun W'=>vM G M W' cb) (ts:=fun a cls d=>vM { G with er:=some (a,cls,d) } M WF ch) ow.stk ow.frm g.nd hi hln hc tk (fun W' pn xe tk' po=>hb W' pn xe (g.tr pn xe) po tk') (fun a oe cls d pn hz hf=>hsu (a,cls,d) ((a,oe)::pn) ⟨g.K,g.nd,⟨g.room.dp,g.room.un⟩,g.N7,fun e he=>by
  obtain ⟨vs,hv⟩:=hf
  cases he
  exact ⟨oe,vs,List.mem_cons_self,hz,hv⟩⟩)).imp fun D σ H ⟨ρ,η,S,s,r,h⟩=>⟨ρ,η,S,s,r,?_⟩
 simp only [aP] at h
 cases eo:exec M cb η S with
 | nx η1 S1=>rw [eo] at h;exact h
 | brk η1 S1=>rw [eo] at h;exact h
 | cnt η1 S1=>rw [eo] at h;exact h
 | ret r1 S1=>rw [eo] at h;exact h
 | bad=>rw [eo] at h;exact h
 | exc z η1 S1=>
  rw [eo] at h
  simp only at h
  intro ρ' H' σ' st s' r'
  cases hm:M.sub z.c c with
  | none=>rw [hm] at h;exact h.elim
  | some b=>
   have Jf:=alg _ _ hm
   rw [hm] at h
   cases b with
   | false=>
    have q:XW G W σ' ρ' H' z:=h ρ' H' σ' st s' r'
    unfold XW at q ⊢
    split at q
    ·rename_i e
     exact ⟨false,Jf,(fun z=>nomatch z),fun _=>q⟩
    ·rename_i ns vs e
     exact fun d fs h1 h2 h3 h4=>⟨false,Jf,(fun z=>nomatch z),fun _=>q d fs h1 h2 h3 h4⟩
   | true=>
    simp only at h
    split at h
    ·rename_i hef
     have key:∀ (a:Addr) (d:Option Addr),VR { G with er:=some (a,.ref (G.xl z.c),d) } ρ' H' z.vl (.ref a)→vM { G with er:=some (a,.ref (G.xl z.c),d) } M WF ch { nx:=fun σ' H'=>D.nx (σ'.set i none) H',rt:=D.rt,bk:=fun σ' H'=>D.bk (σ'.set i none) H',ct:=fun σ' H'=>D.ct (σ'.set i none) H' } (σ'.set i (some (.ref a))) H':=fun a d hv=>by
      refine ⟨ρ',η1.set i (some z.vl),S1,s'.Fl _ hef.2,(r'.Fl _ hef.1).set i hv,?_⟩
      cases es:exec M ch (η1.set i (some z.vl)) S1 with
      | nx η2 S2=>
       rw [es] at h
       simp only at h
       split at h
       ·rename_i Qq
        exact fun ρ2 H2 σ2 st2 s2 r2=>h ρ2 H2 _ (st.trans st2) (s2.NZ _ Qq.2) (ER.NZ _ Qq.1 (r2.ajR i (w:=none)))
       ·exact h.elim
      | ret r2 S2=>
       rw [es] at h
       simp only at h
       split at h
       ·rename_i Qq
        intro ρ2 H2 st2 s2
        have q:=h ρ2 H2 (st.trans st2) (s2.NZ _ Qq.2)
        cases r2 with
        | val y=>exact fun v hv=>q v (VR.NZ _ Qq.1 hv)
        | frs o=>
         refine fun p hp hn ho hs=>q p (none_of s s' st hp) hn (OR.NZ _ Qq.1 ho) (bf.NZ _ ?_ hs)
         have e1:=Qq.2
         have e2:o.ef=true:=Qq.1
         unfold Uy at e1 ⊢
         rw [List.all_append,e1]
         simp [e2]
       ·exact h.elim
      | brk η2 S2=>rw [es] at h;exact h.elim
      | cnt η2 S2=>rw [es] at h;exact h.elim
      | exc z2 η2 S2=>rw [es] at h;exact h.elim
      | bad=>rw [es] at h;exact h.elim
     unfold XW
     split
     ·rename_i e
      refine ⟨true,Jf,fun _ a _=>key a none ?_,(fun z=>nomatch z)⟩
      unfold Xc.vl
      simp only [e,VR]
      exact ⟨a,none,rfl,rfl,.inl ⟨rfl,trivial⟩⟩
     ·rename_i ns vs e
      refine fun d fs h1 h2 h3 h4=>⟨true,Jf,fun _ a _=>key a (some d) ?_,(fun z=>nomatch z)⟩
      unfold Xc.vl
      simp only [e,VR]
      exact ⟨a,some d,rfl,rfl,.inr ⟨d,fs,rfl,h1,h2,h3,au.Fl _ _ _ (au.efo (bT.er X) _ _ h4) h4⟩⟩
    ·exact h.elim
end
end Oz
namespace Oz
open PySem L2 PyProof.Rows
section
variable {G:bB} {M:aF} {W:WX} {X:Cx} {k:Nat} {c f:Str} {a b e:Expr} {ca cb:E} {p pos cH:Pos}
theorem agZ (g:Good G k X) {pins:List (Addr × Obj)} {σ:L2.St} {H:Hp} {s:Shared} {ρ:List Addr} {c:Str} {ns:List Str} {xs:List Vl} {v:V} (I:Inv X pins σ H s) (h:VR G ρ H (.err c ns xs) v) :
  ∃ (q:Addr) (oe:Obj) (od:Option Obj),v=.ref q∧PySem.W.InstAt s.heap q oe (G.xl c) od∧(∀ m,(∃ fs dd,H dd=some (.xd fs)∧fs.map (·.1)=ns∧au G ρ H xs (fs.map (·.2))∧∃ o,od=some o∧∃ mA:Str→Option Value,PySem.W.lookIn m o=some (mA m)∧RelO (fs.lookup m) (mA m))∨xs=[]):=by
 simp only [VR] at h
 obtain ⟨q,d,rfl,he,hd⟩:=h
 obtain ⟨oe,vs,hm,hz,hv⟩:=g.er _ he
 have hp:=(I.pin (q,oe) (List.mem_append_left _ hm)).1
 have nc:PySem.W.notCls oe=true:=by unfold PySem.W.notCls;rw [hv]<;>rfl
 rcases hd with ⟨rfl,rfl⟩ | ⟨dd,fs,rfl,ea,hn,hk,hx⟩
 ·exact ⟨q,oe,none,rfl,⟨hp,hz.1,nc,by rw [hz.2];trivial⟩,fun _=>.inr rfl⟩
 ·obtain ⟨mA,hns,hr⟩:ObjOk X.prog X.w H s.heap dd (.xd fs):=I.hok dd _ ea
  obtain ⟨od,ho,hl⟩:=lookIn_ns hns
  exact ⟨q,oe,some od,rfl,⟨hp,hz.1,nc,by rw [hz.2];exact ho⟩,fun m=>.inl ⟨fs,dd,ea,hk,hx,od,rfl,mA,hl _,hr m⟩⟩
def alz (G:bB) (M:aF) (c:Str):List V→Hp→VK→Prop:=fun xs H Q=>∃ (ρ:List Addr) (d:Str) (ns:List Str) (ys:List Vl) (v u:V) (z:Bool),xs=[v,u]∧VR G ρ H (.err d ns ys) v∧M.sub d c=some z∧Q (.bl z) H
theorem agw (g:Good G k X) {cv:Value} (hX:∀ d z,M.sub d c=some z→ExcC X.K (G.xl d)∧PySem.W.kitOne X.K (.ref (G.xl d)) cv=some z) (u:V) (hv:∀ w,RelV u w→w=cv):CallR X (.builtin "isinstance") (fun xs H Q=>xs[1]? =some u∧alz G M c xs H Q):=by
 intro pins s σ H xs us Q I r h
 obtain ⟨h1,ρ,d,ns,ys,v,u',z,rfl,hvr,hs,q⟩:=h
 cases h1
 obtain ⟨C,hk⟩:=hX d z hs
 cases r with
 | cons rx rr=>
  cases rr with
  | cons rt rr=>
   cases rr
   have ec:=hv _ rt
   subst ec
   obtain ⟨q0,oe,od,rfl,J,_⟩:=agZ g I hvr
   cases rx
   obtain ⟨cd,Ba,_⟩:=PySem.W.any_some C.hd
   exact PySem.W.kia_one (PySem.W.kitx_exc (by rw [Ba];rfl) C.hg C.hk C.hs C.ha C.hn C.ht C.hm) I.kIn J hk (fun z=>nomatch z) fun tk=>⟨.bl z,H,I.tok _,rfl,q⟩
theorem cJ (g:Good G k X) {cv:Value} {u:V} (hX:∀ d z,M.sub d c=some z→ExcC X.K (G.xl d)∧PySem.W.kitOne X.K (.ref (G.xl d)) cv=some z) (hv:∀ w,RelV u w→w=cv) (hg:Gl X "isinstance") (hm:X.mg "isinstance"=none) (ha:PE X a (tE G M W ca)) (hb:PE X b (L2.tC u))
  (hs:starEach [a,b] X.env=(false,eval a X.env)::starEach [b] X.env:=by rfl) (CJ:starEach [b] X.env=(false,eval b X.env)::starEach [] X.env:=by rfl) (jt:(backTo pos (starEach [b] X.env)).any (·.1)=false:=by rfl) :
  PE X (.Call (.Name "isinstance" p) [a,b] [] pos) (tE G M W (.xP c ca)):=(pe_callB (agw (M:=M) (c:=c) g hX u hv) hg hm (by decide+kernel) (pa_cons ha (pa_cons hb pa_nil CJ) hs) (by decide) (by decide) hs jt).imp fun σ H Q ⟨ρ,η,S,s,r,h⟩=>⟨ρ,η,S,s,r,by
 simp only [ev] at h
 refine (PR.bind h).mono fun ρ1 H1 x S1 bU s1 h1 v hvx=> ?_
 cases x with
 | err d ns ys=>
  obtain ⟨z,hz,h2⟩:=h1.gY
  obtain ⟨y,hy,rfl⟩:=Option.map_eq_some_iff.mp hz
  exact ⟨rfl,ρ1,d,ns,ys,v,u,y,rfl,hvx,hy,h2.here s1 _ (by simp only [VR])⟩
 | _=>exact h1.elim⟩
def ae4 (K:PySem.W.Frag):V→List V→Hp→VK→Prop:=fun x xs H Q=>∃ (y:V) (d:PyData) (ds:List PyData),xs=[y]∧Dp K H x (.list ds)∧Dp K H y d∧SeqAt.shaped (.list ds)=true∧SeqAt.shaped d=true∧Q (.int (ds.countP fun z=>PyData.eqv z d:Nat)) H
theorem aez (hu:X.A.units+65<cLine):MtR X "list.count" (ae4 X.K):=by
 intro pins s σ H x xs v us Q I rx rxs h
 obtain ⟨y,d,ds,hxs,hl,hy,sl,sd,q⟩:=h
 subst hxs
 obtain ⟨uy,rfl,ry⟩:=rxs.one
 obtain ⟨bs,r1⟩:=Dp.reads I d y uy hy ry
 have lay:PyData.canLayAll0 ds=true:=SeqAt.canLay_of_shaped sl
 have hroom:X.A.units+1+min (PyData.depthAll ds) d.depth<cLine:=by
  have:=SeqAt.depth_of_shaped sd
  have:=Nat.min_le_right (PyData.depthAll ds) d.depth
  omega
 cases hl with
 | lst hs ha=>
  cases rx
  obtain ⟨its,rv,⟨⟨cl,dd,dt,sls⟩,n,ho,hc,hdn,hdt⟩,mZ⟩:=I.list hs
  dsimp only at hc hdt
  cases hc;cases hdt
  obtain ⟨as,h4⟩:=Dp.readsAll I ds _ its ha rv
  have alv:=SeqAt.readsAll_map ds its as lay h4
  refine call_meets PySem.F.slot_list_count ⟨_,ho,rfl⟩ PySem.F.entry_list_count (PySem.F.args_list_count_2 _ _) (SeqAt.list_countAt _ its.toArray n dd sls uy (fun u=>PyData.eqv (SeqAt.readOf s.heap u) d)) ⟨ho,SeqAt.items_eqAt (vs:=its.toArray) h4 r1 lay (SeqAt.canLay_of_shaped sd) hroom,?_⟩
  have alL:its.toArray.toList.countP (fun u=>PyData.eqv (SeqAt.readOf s.heap u) d)=ds.countP fun z=>PyData.eqv z d:=by
   rw [← alv,List.countP_map]
   rfl
  rw [alL]
  exact ⟨.int _,H,I.tok _,⟨_,rfl⟩,q⟩
theorem af6 {K:PySem.W.Frag} (hK:G.K=K) {ρ:List Addr} {H:Hp} {S:Hs} {x:Vl} {v:V} (s:bf G ρ H S) (hv:VR G ρ H x v) (h:(bV S x).isSome=true):tyV K "list" v H:=by
 subst hK
 obtain ⟨xs,e⟩:=Option.isSome_iff_exists.mp h
 obtain ⟨a,vs,rfl,hs,_⟩:=lU s hv e
 exact .inl ⟨rfl,vs,.inl hs⟩
theorem tLs (hK:X.K=G.K) (r:V→List V→Hp→VK→Prop) (op:Hs→Vl→Vl→Option Vl) (cc:E) (hc:∀ η S,ev M cc η S=(ev M ca η S).bind fun x S1=>if (bV S1 x).isSome=true then (ev M cb η S1).bind fun y S2=>gY S2 (op S2 x y) else .bad)
  (ho:∀ (ρ:List Addr) (H:Hp) (S:Hs) (x y z:Vl) (v w:V) (Q:VK),bf G ρ H S→VR G ρ H x v→VR G ρ H y w→op S x y=some z→(∀ u,VR G ρ H z u→Q u H)→r v [w] H Q) (σ:L2.St) (H:Hp) (Q:VK) (h:tE G M W cc σ H Q):tBM X.K "list" r (tE G M W ca) (tA G M W (.cons cb .nil)) σ H Q:=by
 obtain ⟨ρ,η,S,s,r',h⟩:=h
 rw [hc] at h
 refine ⟨ρ,η,S,s,r',(PR.bind h).mono fun ρ1 H1 x S1 bU s1 h1 v hv=> ?_⟩
 split at h1
 ·rename_i hl
  refine ⟨af6 hK.symm s1 hv hl,ρ1,η,S1,s1,r'.step bU,?_⟩
  simp only [evs]
  cases eb:ev M cb η S1 with
  | bad=>rw [eb] at h1;exact h1.elim
  | exc x2 S2=>rw [eb] at h1;exact h1
  | ok y S2=>
   rw [eb] at h1
   simp only [Res.bind] at h1 ⊢
   intro ρ2 H2 st2 s2 as ha
   obtain ⟨z,hz,h2⟩:=(PR.step h1 st2).gY
   simp only [au] at ha
   obtain ⟨w,r2,rfl,hw,rfl⟩:=ha
   exact ho ρ2 H2 S2 x y z v w Q s2 (hv.step st2) hw hz fun u hu=>h2.here s2 u hu
 ·exact h1.elim
theorem aaw (g:Good G k X) (ha:PE X a (tE G M W ca)) (hb:PE X e (tE G M W cb)) (Tj:starEach [e] X.env=(false,eval e X.env)::starEach [] X.env:=by rfl) (fM:attributeBase a "count" X.env (eval a X.env)=eval a X.env:=by rfl)
  (SQ:((backTo pos (starEach (e::[]) X.env)).all (fun x=> !x.1)&&(backToKw pos (keywordEach [] X.env)).all (fun x=>x.1.isSome)
   &&decide ((e::([]:List Expr)).length+([]:List Keyword).length+(if ([]:List Keyword).isEmpty then 0 else 1)<30))=true:=by rfl)
  (fL:(cH.endLine==pos.line)=true:=by rfl) (rO:(backTo pos (starEach [] X.env)).any (·.1)=false:=by rfl) :
  PE X (.Call (.Attribute a "count" cH) [e] [] pos) (tE G M W (.abu ca cb)):=
 (pe_bm F.plainAttrs_list F.slot_list_count F.type_list_count (aez (by have:=g.u64;have:=g.room.un;omega)) ha (uA hb gH Tj) fM SQ fL Tj rO).imp (tLs g.K (ae4 X.K) QR (.abu ca cb) (fun η S=>by simp only [ev]) fun ρ H S x y z v w Q s hv hw e q=>by
  unfold QR at e
  split at e
  ·rename_i ds d e1 e2
   split at e
   ·rename_i hs
    cases e
    exact ⟨w,d,ds,rfl,by rw [g.K];exact ue s hv e1,by rw [g.K];exact ue s hw e2,hs.1,hs.2,q _ (by simp only [VR])⟩
   ·cases e
  ·cases e)
theorem aaX (g:Good G k X) (ha:PE X a (tE G M W ca)) (hb:PE X e (tE G M W cb)) (Tj:starEach [e] X.env=(false,eval e X.env)::starEach [] X.env:=by rfl) (fM:attributeBase a "index" X.env (eval a X.env)=eval a X.env:=by rfl)
  (SQ:((backTo pos (starEach (e::[]) X.env)).all (fun x=> !x.1)&&(backToKw pos (keywordEach [] X.env)).all (fun x=>x.1.isSome)
   &&decide ((e::([]:List Expr)).length+([]:List Keyword).length+(if ([]:List Keyword).isEmpty then 0 else 1)<30))=true:=by rfl)
  (fL:(cH.endLine==pos.line)=true:=by rfl) (rO:(backTo pos (starEach [] X.env)).any (·.1)=false:=by rfl) :
  PE X (.Call (.Attribute a "index" cH) [e] [] pos) (tE G M W (.ab3 ca cb)):=
 (pe_bm F.plainAttrs_list F.slot_list_index F.type_list_index (mt_indexD (by have:=g.room.un;omega)) ha (uA hb gH Tj) fM SQ fL Tj rO).imp (tLs g.K (rIndexD X.K) yU (.ab3 ca cb) (fun η S=>by simp only [ev]) fun ρ H S x y z v w Q s hv hw e q=>by
  unfold yU at e
  split at e
  ·rename_i ds d e1 e2
   split at e
   ·rename_i hs
    obtain ⟨j,hj,rfl⟩:=Option.map_eq_some_iff.mp e
    obtain ⟨Zg,hp,hno⟩:=List.findIdx?_eq_some_iff_getElem.mp hj
    have hd:=ue s hv e1
    rw [← g.K] at hd
    have ht:∃ p,v=.ref p:=by cases hd;exact ⟨_,rfl⟩
    obtain ⟨p,rfl⟩:=ht
    refine ⟨p,w,d,ds,j,ds[j],rfl,rfl,hd,by rw [g.K];exact ue s hw e2,hs.1,hs.2,List.getElem?_eq_getElem Zg,hp,fun m z' hm hz=> ?_,q _ (by simp only [VR])⟩
    obtain ⟨hml,rfl⟩:=List.getElem?_eq_some_iff.mp hz
    simpa using hno m hm
   ·cases e
  ·cases e)
theorem Vg {ρ:List Addr} {H:Hp}:∀ zs:List Str,au G ρ H (zs.map .str) (zs.map V.str)
 | []=>au.nil
 | z::zs=>au.cons (by simp only [VR]) (Vg zs)
theorem u9 (ha:PE X a (tE G M W ca)) (hb:PE X e (tE G M W cb)) (hs:starEach [e] X.env=[(false,eval e X.env)]:=by rfl) (fM:attributeBase a "split" X.env (eval a X.env)=eval a X.env:=by rfl) (fL:(cH.endLine==pos.line)=true:=by rfl) :
  PE X (.Call (.Attribute a "split" cH) [e] [] pos) (tF G M W (.split ca cb)):=(pe_split ha hb hs fM fL).imp fun σ H Q ⟨ρ,η,S,s,r,h⟩=>⟨ρ,η,S,s,r,by
 simp only [d9] at h
 refine (PR.bind h).mono fun ρ1 H1 x S1 bU s1 h1 v hv=> ?_
 cases x with
 | str z=>
  simp only [VR] at hv
  subst hv
  refine ⟨⟨z,rfl⟩,ρ1,η,S1,s1,r.step bU,(PR.bind h1).mono fun ρ2 H2 y S2 st2 s2 h2 w hw=> ?_⟩
  cases y with
  | str w'=>
   simp only [VR] at hw
   subst hw
   simp only at h2
   split at h2
   ·rename_i hc
    exact ⟨z,w',rfl,rfl,by simp [hc.1],hc.2,fun p hp=>jD s (bU.trans st2) s2 h2 hp fun ρ' gG=>⟨_,upd_same,Vg _⟩⟩
   ·exact h2.elim
  | _=>exact h2.elim
 | _=>exact h1.elim⟩
end
structure FnX (P:Program) (w:World) (K:PySem.W.Frag) (mg:Str→Option Value) (base:Heap) (G:bB) (M:aF) (k:Nat) (f:Addr) (fd:FuncData) (ps:List Str) (n:Nat) (q:Str):Prop where
 len:ps.length=n
 run:∀ (e:Addr × Value × Option Addr) (oe:Obj) (A:Around) (outer:List Env) (s:Shared) (H:Hp) (args:Args) (us:List Value) (vs:List V) (Q:VK) (E:XK),L2H.RoomH k A→A.guards=some []→L2H.PinOk outer H s (e.1,oe)→Zc e.2.1 e.2.2 oe→(∃ vs,oe.data=.fields vs)→
  Env0 P w K mg base A outer s H→BindsTo s fd args (ps.zip us)→Vals vs us→spI { G with er:=some e } M n q vs H Q E→codeAny (model P w) A (.call (.ref f) args) (CR (L2.CX P w) outer P w H s Q E) s
structure aiF (P:Program) (w:World) (K:PySem.W.Frag) (mg:Str→Option Value) (base:Heap) (G:bB) (M:aF) (k:Nat) (x q:Str) (n:Nat):Prop where
 ex:∃ (f:Addr) (fd:FuncData) (ps:List Str),FnX P w K mg base G M k f fd ps n q∧mg x=some (.ref f)∧PySem.W.keepIn K (.ref f)=true∧Binds K fd ps []
section
variable {G:bB} {M:aF} {W:WX} {X:Cx} {k n:Nat} {x q:Str} {e:Expr} {es:List Expr} {cU:Es} {p pos:Pos} {e0:Addr × Value × Option Addr}
theorem ahu {G':bB} (g:Good G' k X) (he:G'.er=some e0) {pins:List (Addr × Obj)} {σ:L2.St} {H:Hp} {s:Shared} (I:Inv X pins σ H s):∃ oe,L2H.PinOk X.stack H s (e0.1,oe)∧Zc e0.2.1 e0.2.2 oe∧∃ vs,oe.data=.fields vs:=by
 obtain ⟨oe,vs,hm,hz,hv⟩:=g.er e0 he
 obtain ⟨i1,i2,i3,i4,i5⟩:=I.pin (e0.1,oe) (List.mem_append_left _ hm)
 refine ⟨oe,⟨i1,i2,fun hf=> ?_,i5⟩,hz,vs,hv⟩
 rcases List.mem_cons.mp (I.stkSub _ hf) with z | z
 ·exact i3 z
 ·exact i4 z
theorem cvX (g:Good { G with er:=some e0 } (k+1) X) (c:aiF X.prog X.w X.K X.mg X.base G M k x q n) (tk:Takes X W) (ha:PA X (e::es) (tA { G with er:=some e0 } M W cU)) (hn:cU.len=n:=by rfl) (hg:Gl X x:=by rfl) (sX:(x==("__debug__":Str))=false:=by decide)
  (he:starEach (e::es) X.env=(false,eval e X.env)::starEach es X.env:=by rfl) (jt:(backTo pos (starEach es X.env)).any (·.1)=false:=by rfl):PE X (.Call (.Name x p) (e::es) [] pos) (tE { G with er:=some e0 } M W (.call q cU)):=by
 obtain ⟨f,fd,ps,F,hm,hk,hb⟩:=c.ex
 have key:PE X (.Call (.Name x p) (e::es) [] pos) (tCl X k n { G with er:=some e0 } M q W cU []):=by
  refine ⟨fun pins s σ H Q I ⟨ρ,η,S,s0,r,h⟩=> ?_⟩
  refine wpAny_Call_Name_kw (ld_glob I hg hm ?_ sX)
  refine PySem.W.callWith_K (h₀:=X.base) I.ok.mod.kin hk (thn (ha.run pos pins s σ H (fun vs H1=>∃ xs ρ1 S1,Step ρ H ρ1 H1∧bf { G with er:=some e0 } ρ1 H1 S1∧au { G with er:=some e0 } ρ1 H1 xs vs∧xs.length+([]:List Vl).length=n∧PR { G with er:=some e0 } W σ ρ1 H1 (M.cal q (xs++[]) S1) (okR { G with er:=some e0 } H1 Q)) I ⟨ρ,η,S,s0,r,h.mono fun ρ1 H1 xs S1 bU s1 hl vs hv=>⟨xs,ρ1,S1,bU,s1,hv,hl⟩⟩) fun us s1 ⟨vs,H1,I1,rv,xs,ρ1,S1,bU,sm1,hv,hl,hp⟩=>⟨I1.kIn,?_⟩) he jt
  obtain ⟨oe,hpin,hz,hv0⟩:=ahu g rfl I1
  have len:us.length=ps.length:=by rw [F.len,← hl,hv.length,rv.length];rfl
  have b:=hb s1 us I1.kIn (by rw [List.append_nil];exact len)
  rw [List.append_nil] at b
  rw [List.append_nil] at hp
  refine wpAny_call (codeAny_mono (F.run e0 oe X.A X.stack s1 H1 ⟨us,[]⟩ us vs Q _ (g.room.mono (Nat.le_succ _)) g.N7 hpin hz hv0 I1.env0 b rv ⟨by rw [← hl,hv.length];rfl,ρ1,S1,xs,sm1,hv,PR.vo hp⟩) ?_)
  intro r' s' hq
  match r',hq with
  | .error e,hq=>exact raised tk I1 hq
  | .ok (.ret u),hq=>exact I1.after hq
  | .ok .next,hq=>exact hq.elim
  | .ok .brk,hq=>exact hq.elim
  | .ok .cont,hq=>exact hq.elim
 refine key.imp fun σ H Q h=>CN (fun η S xs S1 h=> ?_) (by rw [Es.oH];exact h)
 rw [mJ _ _ _ _ _ h,hn];rfl
end
section
variable {G:bB} {P:Program} {w:World} {mg:Str→Option Value} {base:Heap}
theorem ajy {k:Nat} {f:Addr} {x bF q:Str} {params:Arguments} {body:List Stmt} {scope:Scope} {dvs:List V} {kws:List (Str × V)} {fd:FuncData} {N ps:List Str} {M M':aF} {d:jU} (F:FunD G.K x bF params body scope dvs kws f fd) (Sc:FnScope N ps scope)
  (hM:∀ xs S,M.cal q xs S=gK M' d xs S) (Rw:d.np=ps.length) (LC:d.nn=N.length)
  (pO:∀ (e:Addr × Value × Option Addr) (cI:Value) (A:Around) (outer:List Env) (s:Shared) (H:Hp) (E:XK) (p:Addr × Obj),Good { G with er:=some e } k (L2H.cxH (L2.CX P w) P w G.K mg base N bF scope f cI A outer s H E p)→
   Takes (L2H.cxH (L2.CX P w) P w G.K mg base N bF scope f cI A outer s H E p) (fun cls d _ H'=>E cls d H')→PSs (L2H.cxH (L2.CX P w) P w G.K mg base N bF scope f cI A outer s H E p) body (vM { G with er:=some e } M' (fun cls d _ H'=>E cls d H') d.body)) :
  FnX P w G.K mg base G M (k+1) f fd ps d.np q:=by
 obtain ⟨oc,od,dV,kV,xJ,pm,an,cI,ct,Xx,rfl,lk,Ba,_,_⟩:=F.ex
 refine ⟨Rw.symm,fun e oe A outer s H args us vs Q E hr hgd hpin hz hv0 e0 hb r Cp=> ?_⟩
 obtain ⟨Bp,ρ,S,xs,sim,hxs,hp⟩:=Cp
 rw [hM] at hp
 have pl:vs.length=ps.length:=Bp.trans Rw
 have ul:G.K.In s.heap:=e0.mod.kin.keeps fun b o e=>(e0.bs b o e).1
 have Gq:s.heap.NoLimit:=e0.mod.nolimit.keeps fun b o e=>(e0.bs b o e).1
 refine codeAny_call_function hr.depth (ul _ _ lk) rfl Sc.co Sc.gen rfl (PySem.W.codeRec_of ul Ba) (hb _ _ _ _ (wpAny_newFunctionEnv_cells Sc.kind (fun ⟨n,v⟩ hy=>(Sc.par n (List.of_mem_zip hy).1).imp id fun z=>⟨z,PySem.W.cellsFrom_some _ _ _ (.inl z)⟩) fun env he s1 x=> ?_))
 subst he
 refine ⟨Gq.keeps x.toInCall.keep,codeAny_func ?_⟩
 have xj:=L2H.inv_startH (CX:=L2.CX P w) (E:=E) Sc hpin e0 pl r x
 have gd:Good { G with er:=some e } k (L2H.cxH (L2.CX P w) P w G.K mg base N bF scope f cI A outer s H E (e.1,oe)):=⟨rfl,Sc.nd,hr.deeper _,hgd,fun e' he'=>by
  obtain ⟨vs',hv'⟩:=hv0
  cases he'
  exact ⟨oe,vs',List.mem_singleton.mpr rfl,hz,hv'⟩⟩
 have U7:=(pO e cI A outer s H E (e.1,oe) gd (L2.takes_of rfl rfl rfl rfl)).run [] s1 (L2.start N vs) H { nx:=fun _ H'=>Q .non H',rt:=Q } xj ⟨ρ,_,S,sim,Gp LC hxs,Ur sim (hxs.length.trans Bp) hp⟩
 refine wpAny_mono U7 (fun fl s' hs=> ?_) fun _ _ z=>z
 cases fl with
 | ret u=>obtain ⟨v,σ',H',J,rv,z⟩:=hs;exact ⟨v,H',J.os,J.bare,J.base,J.hok,rv,z⟩
 | next=>obtain ⟨σ',H',J,z⟩:=hs;exact ⟨.non,H',J.os,J.bare,J.base,J.hok,rfl,z⟩
 | brk=>obtain ⟨_,_,_,z⟩:=hs;exact z.elim
 | cont=>obtain ⟨_,_,_,z⟩:=hs;exact z.elim
theorem af0 {K:PySem.W.Frag} {k n:Nat} {f:Addr} {fd:FuncData} {ps:List Str} {M:aF} {q:Str} (hn:n=ps.length) (hM:∀ xs S,M.cal q xs S=.bad):FnX P w K mg base G M k f fd ps n q:=
 ⟨hn.symm,fun e oe A outer s H args us vs Q E _ _ _ _ _ _ _ _ ⟨_,ρ,S,xs,_,_,hp⟩=>by rw [hM] at hp;exact hp.elim⟩
end
end Oz
namespace Oz
open PySem L2
section
variable {M:aF} {η η1 η2:Sg} {S S1 S2 S3:Hs} {a b e:E} {x y z:Vl} {es:Es} {xs:List Vl} {c:C} {cs:Cs} {i:Nat} {er:Xc}
theorem cA (h:aP M c η S=.exc er η1 S1):exec M (.cons c cs) η S=.exc er η1 S1:=by simp only [exec,h]
theorem x_raise {cl f:Str} (h:ev M e η S=.ok x S1) (hx:M.xi cl=some (some f)):aP M (.raise cl (.cons e .nil)) η S=.exc ⟨cl,some ([f],[x])⟩ η S1:=by
 simp only [aP,evs,h,Res.bind,Res.out,hx]
theorem aa4 (h:ev M e η S=.exc er S1):aP M (.ex e) η S=.exc er η S1:=by simp only [aP,h,Res.out]
theorem yd {m:Str} (hs:evs M es η S=.ok xs S1) (hc:M.cal m xs S1=.exc er S2):ev M (.call m es) η S=.exc er S2:=by simp only [ev,hs,Res.bind,qj,hc]
theorem agl {f:F} (h:d9 M f η S=.exc er S1):ev M (.inl f) η S=.exc er S1:=by simp only [ev,h,Res.bind]
theorem Mi {p q:CmpOp} (ha:ev M a η S=.ok x S1) (hb:ev M b η S1=.ok y S2) (hp:cmpop p S2 x y=some false):ev M (.Rq p q a b e) η S=.ok (.bl false) S2:=by
 simp only [ev,ha,hb,Res.bind,gY,hp,Bool.false_eq_true,if_false]
theorem VJ {m:Int} (ha:ev M a η S=.ok (.int m) S1):ev M (.neg a) η S=.ok (.int (-m)) S1:=by simp only [ev,ha,Res.bind]
theorem ajD {cl d:Str} {ns:List Str} {vs:List Vl} {w:Bool} (ha:ev M a η S=.ok (.err d ns vs) S1) (h:M.sub d cl=some w):ev M (.xP cl a) η S=.ok (.bl w) S1:=by simp only [ev,ha,Res.bind,h,Option.map_some,gY]
theorem aaT (ha:ev M a η S=.ok x S1) (hl:(bV S1 x).isSome=true) (hb:ev M b η S1=.ok y S2) (hc:QR S2 x y=some z):ev M (.abu a b) η S=.ok z S2:=by simp only [ev,ha,Res.bind,hl,if_true,hb,hc,gY]
theorem aba (ha:ev M a η S=.ok x S1) (hl:(bV S1 x).isSome=true) (hb:ev M b η S1=.ok y S2) (hc:yU S2 x y=some z):ev M (.ab3 a b) η S=.ok z S2:=by simp only [ev,ha,Res.bind,hl,if_true,hb,hc,gY]
theorem yC {u w:Str} (ha:ev M a η S=.ok (.str u) S1) (hb:ev M b η S1=.ok (.str w) S2) (hw:w.length≠0) (hu:u.length+2≤1000000):d9 M (.split a b) η S=.ok (.lst ((Txt.split u w).map .str)) S2:=by
 simp only [d9,ha,Res.bind,hb]
 rw [if_pos ⟨hw,Nat.le_trans hu (by decide)⟩]
theorem ahn {bd hd:Cs} {cl:Str} (h:exec M bd η S=.nx η1 S1):aP M (.try_ bd cl i hd) η S=.nx η1 S1:=by simp only [aP,h]
theorem af8 {bd hd:Cs} {cl:Str} (h:exec M bd η S=.exc er η1 S1) (hs:M.sub er.c cl=some true) (f1:Y7 η1=true) (f2:Uy S1=true) (hh:exec M hd (η1.set i (some er.vl)) S1=.nx η2 S2) (f3:Y7 (η2.set i none)=true) (f4:Uy S2=true):aP M (.try_ bd cl i hd) η S=.nx (η2.set i none) S2:=by
 simp only [aP,h,hs,f1,f2,and_self,if_true,hh,f3,f4]
end
theorem Ot {x:Xc} {n:Nat} (h:∀ ns vs,x.fs=some (ns,vs)→dH vs=true):x.lim n=true:=by
 unfold Xc.lim
 cases e:x.fs with
 | none=>rfl
 | some p=>exact mG n _ (h p.1 p.2 (by rw [e]))
theorem M8 {M:aF} {d:jU} {xs:List Vl} {S T:Hs} {x:Xc} {η:Sg} (hl:xs.length=d.np) (hb:exec M d.body (xs.map some++List.replicate (d.nn - xs.length) none) S=.exc x η (S++T)) (hS:NR S) (hx:∀ ns vs,x.fs=some (ns,vs)→dH vs=true):gK M d xs S=.exc x S:=by
 unfold gK
 rw [if_pos hl,hb]
 simp only [adP]
 have ht:(S++T).take S.length=S:=by simp
 rw [if_pos ⟨by rw [ht];exact hS.cl _,Ot hx⟩,ht]
theorem abJ {M:aF} {d:jU} {xs:List Vl} {S T:Hs} {o o':Ob} {x:Xc} {η:Sg} (hl:xs.length=d.np) (hb:exec M d.body (xs.map some++List.replicate (d.nn - xs.length) none) (S++[o])=.exc x η (S++[o']++T)) (hS:NR S) (ho:o'.nr=true) (hx:∀ ns vs,x.fs=some (ns,vs)→dH vs=true):gK M d xs (S++[o])=.exc x (S++[o']):=by
 unfold gK
 rw [if_pos hl,hb]
 simp only [adP]
 have hn:(S++[o]).length=(S++[o']).length:=by simp
 rw [hn]
 have ht:(S++[o']++T).take (S++[o']).length=S++[o']:=by
  rw [List.take_append_of_le_length (Nat.le_refl _),List.take_length]
 rw [if_pos ⟨by rw [ht];exact (hS.one ho).cl _,Ot hx⟩,ht]
theorem af4 {M:aF} {es:Es} {η:Sg} {S S1:Hs} {xs:List Vl} {cl:Str} {o:Ob} {x:Xc} (hs:evs M es η S=.ok xs S1) (hS:NR S1) (hc:M.cal (dot cl "__init__") (.ref S1.length::xs) (S1++[.ins cl [] []])=.exc x (S1++[o])) (hx:∀ ns vs,x.fs=some (ns,vs)→dH vs=true):d9 M (.new cl es) η S=.exc x S1:=by
 simp only [d9,hs,Res.bind,hc,Cq]
 have ht:(S1++[o]).take S1.length=S1:=by rw [List.take_append_of_le_length (Nat.le_refl _),List.take_length]
 rw [ht,if_pos ⟨by simp,hS.cl _,Ot hx⟩]
theorem agV {o:Ob} (n:Nat) (h:o.nr=true):o.lim n=true:=by
 cases o with
 | lst xs=>exact mG n xs h
 | dct ks xs=>exact mG n xs h
 | ins c ns xs=>exact mG n xs h
 | Ac ks xs=>exact mG n xs h
theorem JN {body:Sg→Hs→Out} {t:Tg} {lk:List Lk} (I:Nat→Sg→Hs→Prop) (j:Nat):∀ (xs:List Vl) (k:Nat) (η:Sg) (S:Hs) (x:Vl),I k η S→(∀ i η S,I i η S→cP lk S)→xs[j]? =some x→
  (∀ i x η S,i<j→xs[i]? =some x→I (k+i) η S→∃ η1,aZ t x η=some η1∧∃ η2 S2,(body η1 S=.nx η2 S2∨body η1 S=.cnt η2 S2)∧I (k+i+1) η2 S2)→
  ∃ η' S',I (k+j) η' S'∧∀ η1 o,aZ t x η'=some η1→body η1 S'=o→((∃ e η2 S2,o=.exc e η2 S2)∨∃ r S2,o=.ret r S2)→forL body t lk xs η S=o
 | [],k,η,S,x,h0,hl,hx,_=>by simp at hx
 | y::xs,k,η,S,x,h0,hl,hx,hs=>by
  cases j with
  | zero=>
   cases (show some y=some x by simpa using hx)
   refine ⟨η,S,h0,fun η1 o h1 h2 h3=> ?_⟩
   unfold forL
   rw [if_pos (hl k η S h0),h1]
   simp only [h2]
   rcases h3 with ⟨e,a,b,rfl⟩ | ⟨r,a,rfl⟩<;>rfl
  | succ j=>
   obtain ⟨η1,e1,η2,S2,e2,h2⟩:=hs 0 y η S (by omega) rfl h0
   obtain ⟨η',S',h3,h4⟩:=JN I j xs (k+1) η2 S2 x h2 hl (by simpa using hx) fun i z η S hi ey hI=>by
    have:=hs (i+1) z η S (by omega) (by simpa using ey) (by rw [show k+(i+1)=k+1+i by omega];exact hI)
    rw [show k+(i+1)+1=k+1+i+1 by omega] at this
    exact this
   refine ⟨η',S',by rw [show k+(j+1)=k+1+j by omega];exact h3,fun η3 o a1 a2 a3=> ?_⟩
   unfold forL
   rw [if_pos (hl k η S h0),e1]
   rcases e2 with e2 | e2<;>simp only [e2]<;>exact h4 η3 o a1 a2 a3
theorem OJ {body:Sg→Hs→Out} {t:Tg} {lk:List Lk} {xs:List Vl} {η:Sg} {S:Hs} (I:Nat→Sg→Hs→Prop) (j:Nat) {x:Vl} (h0:I 0 η S) (hl:∀ i η S,I i η S→cP lk S) (hx:xs[j]? =some x)
  (hs:∀ i x η S,i<j→xs[i]? =some x→I i η S→∃ η1,aZ t x η=some η1∧∃ η2 S2,(body η1 S=.nx η2 S2∨body η1 S=.cnt η2 S2)∧I (i+1) η2 S2) :
  ∃ η' S',I j η' S'∧∀ η1 o,aZ t x η'=some η1→body η1 S'=o→((∃ e η2 S2,o=.exc e η2 S2)∨∃ r S2,o=.ret r S2)→forL body t lk xs η S=o:=by
 obtain ⟨η',S',h,k⟩:=JN I j xs 0 η S x h0 hl hx fun i x η S hi e h=>by rw [Nat.zero_add] at h ⊢;exact hs i x η S hi e h
 rw [Nat.zero_add] at h
 exact ⟨η',S',h,k⟩
end Oz
namespace Oz
open PySem PySem.Spec L2 PyProof.Rows
structure Bx where
 nm:String
 new_:String
 ini:String
 tl:List Value
 bn:String
 btl:List Value
structure Od (b:Bx):Prop where
 base:ExcBaseFacts b.bn b.new_ b.ini b.btl
 hB:b.tl.contains (.type b.bn)=true
 hA:b.tl.contains (.type "AttributeError")=false
 hN:b.tl.contains (.type "NameError")=false
 sto:StoreFacts b.nm b.tl "object.__setattr__" "object"
def bxV:Bx:=⟨"ValueError","ValueError.__new__","ValueError.__init__",[.type "ValueError",.type "Exception",.type "BaseException",.type "object"],"ValueError",[.type "ValueError",.type "Exception",.type "BaseException",.type "object"]⟩
def bxL:Bx:=⟨"LookupError","LookupError.__new__","LookupError.__init__",[.type "LookupError",.type "Exception",.type "BaseException",.type "object"],"LookupError",[.type "LookupError",.type "Exception",.type "BaseException",.type "object"]⟩
def bxI:Bx:=⟨"IndexError","IndexError.__new__","IndexError.__init__",[.type "IndexError",.type "LookupError",.type "Exception",.type "BaseException",.type "object"],"IndexError",[.type "IndexError",.type "LookupError",.type "Exception",.type "BaseException",.type "object"]⟩
theorem U0:Od bxV:=⟨F.excBase_ValueError,F.excBase_ValueError.hasB,F.excBase_ValueError.noAttr,F.excBase_ValueError.noName,F.store_ValueError⟩
section
variable {prog:Program} {w:World} {A:Around} {E:Value→Shared→Prop} {R:Result→Shared→Prop} {h:Heap} {g:Array GenState} {d:Drawn} {t:Nat} {os:OsState}
variable {nm q:Str} {C N fI:Addr} {bs bm bb rest:List Value} {hd:Bool} {sn:List Str} {sub:List Value} {ab:Bool} {col:Option Bool} {dd:Option Addr} {k0 k1 k2 k3 k5:Option Value} {B nw ini:String}
theorem ad0 (F:ExcBaseFacts B nw ini bb) (e1:bm.contains (.type B)=true) (e2:bm.contains (.type "AttributeError")=false) (e3:bm.contains (.type "NameError")=false) (hC:h.get? C=some (excClassObj nm q C N bs bm hd sn sub ab col dd k0 k1 k2 k3 k5 nw))
  (go:R (.ok (.ret (.ref (h.objs.size+1)))) ⟨(h.push (PySem.W.kdv_tup rest)).push (PySem.HandSPX.excO C h.objs.size),g,d,t,os⟩) (hr:rest.length≤sizeLine):codeAny (model prog w) A (.builtin nw ⟨.ref C::rest,[]⟩) R ⟨h,g,d,t,os⟩:=by
 have l:=F.ends
 have c1:(Value.ref C::bm).contains (.type B)=true:=by rw [List.contains_cons,e1];exact Bool.or_true _
 have c2:(Value.ref C::bm).contains (.type "AttributeError")=false:=by rw [List.contains_cons,e2];rfl
 have c3:(Value.ref C::bm).contains (.type "NameError")=false:=by rw [List.contains_cons,e3];rfl
 apply codeAny_builtinAt F.entry
 unfold Builtin.«BaseException.__new__»
 refine PySem.wpAt_bind ?_
 show PySem.wpAt _ _ _ (stack>>=_) _ _ _
 refine PySem.wpAt_bind ?_
 refine PySem.wpAt_stack fun p below=>PySem.wpAt_of_wpAny ?_
 wp_walk
 refine PySem.wpAt_of_wpAny ?_
 rw [F.owner]
 repeat first
  | with_reducible refine wpAny_madeHere_exc F.canon hC ?_
  | with_reducible refine wpAny_loadPart_at hC ?_
  | (with_reducible refine wpAny_isSubtype_exc hC ?_;first | rw [c1] | rw [c2] | rw [c3])
  | wp_step
 show R _ _
 rw [Heap.size_push];exact go
theorem adq {M:Model} {Q:Unit→Shared→Prop} (F:ExcBaseFacts B nw ini bb) (e1:bm.contains (.type B)=true) (hC:h.get? C=some (excClassObj nm q C N bs bm hd sn sub ab col dd k0 k1 k2 k3 k5 nw)) (go:Q () ⟨h,g,d,t,os⟩):wpAny M A (checkBuiltinCall nw ⟨.ref C::rest,[]⟩) Q E ⟨h,g,d,t,os⟩:=by
 have c1:(Value.ref C::bm).contains (.type B)=true:=by rw [List.contains_cons,e1];exact Bool.or_true _
 have l:=F.noStar
 simp only [checkBuiltinCall,F.newKind,F.newSplit,F.newRow]
 repeat first
  | refine wpAny_loadPart_at hC ?_
  | (refine wpAny_isSubtype_exc hC ?_;rw [c1])
  | refine wpAny_staticBase_exc hC ?_
  | refine wpAny_madeBy_exc hC ?_
  | simp only [bne_self_eq_false,Bool.false_eq_true,if_false]
  | wp_step
 exact go
theorem abB (F:ExcBaseFacts B nw ini bb) (e1:bm.contains (.type B)=true) (e2:bm.contains (.type "AttributeError")=false) (e3:bm.contains (.type "NameError")=false) (hC:h.get? C=some (excClassObj nm q C N bs bm hd sn sub ab col dd k0 k1 k2 k3 k5 nw))
  (hi:PySem.W.Looks (model prog w) h (typeLookup (.ref C) "__init__") (some (.ref fI))) (hb:∀ self,PySem.W.Looks (model prog w) h (bindSpecial (.ref fI) self) (.ref fI,[self])) (hr:rest.length≤sizeLine)
  (go:codeAny (model prog w) (A.under (.builtin "type.__call__" ⟨.ref C::rest,[]⟩)) (.call (.ref fI) ⟨.ref (h.objs.size+1)::rest,[]⟩) (PySem.W.InitBack (h.objs.size+1) R) ⟨(h.push (PySem.W.kdv_tup rest)).push (PySem.HandSPX.excO C h.objs.size),g,d,t,os⟩) :
  codeAny (model prog w) A (.call (.ref C) ⟨rest,[]⟩) R ⟨h,g,d,t,os⟩:=by
 have f1:=tc_lookup
 have f2:=tc_bind (.ref C)
 have ty:(⟨h,g,d,t,os⟩:Shared).TypeIs (.ref C) "type":=⟨_,hC,rfl⟩
 have kp:∀ b o,h.get? b=some o→((h.push (PySem.W.kdv_tup rest)).push (PySem.HandSPX.excO C h.objs.size)).get? b=some o:=fun _ _ e=>Heap.get?_push_of_some _ (Heap.get?_push_of_some _ e)
 have hx:((h.push (PySem.W.kdv_tup rest)).push (PySem.HandSPX.excO C h.objs.size)).get? (h.objs.size+1)=some (PySem.HandSPX.excO C h.objs.size):=by heap_get
 have cC:(Value.ref C::bm).contains (.ref C)=true:=by simp
 have h1:=kp _ _ hC
 have i1:=hi.keeps kp
 have b1:=(hb (.ref (h.objs.size+1))).keeps kp
 apply codeAny_of_tree
 show wpAny _ _ (callAny (.ref C) _) _ _ _
 repeat any_goals first | assumption | with_reducible refine wpAny_loadPart_at hC ?_ | wp_step
 refine ⟨rfl,codeAny_call_builtin_at (Code.quiet_builtin _ (by decide+kernel)) entry_typeCall (wpAny_check_type_call_sub hC ?_)⟩
 repeat first | with_reducible refine wpAny_loadPart_at hC ?_ | with_reducible refine wpAny_madeBy_exc hC ?_ | wp_step
 refine codeAny_call_builtin_code (Code.quiet_builtin _ F.quiet) (adq F e1 hC (ad0 F e1 e2 e3 hC ?_ hr))
 show wpAny _ _ _ _ _ _
 unfold isInstance
 repeat first | with_reducible refine wpAny_loadPart_at hx ?_ | ((show wpAny _ _ (isSubtype (.ref C) (.ref C)) _ _ _);refine wpAny_isSubtype_exc h1 ?_;rw [cC]) | wp_step
 show wpAny _ _ (typeLookup (.ref C) _) _ _ _
 refine i1.at (wpAny_holding (wpAny_bind (b1.at (wpAny_bind (wpAny_call (codeAny_mono go fun r s' z=> ?_))))))
 rcases r with e | (v | _ | _ | _)<;>first
  | exact z
  | exact z.elim
  | (obtain ⟨rfl,z⟩:=z;first | exact wpAny_pure (wpAny_pure z) | (wp_walk;done) | (wp_walk;exact z))
end
structure Yo (b:Bx) (K:PySem.W.Frag) (C:Addr):Prop where
 cls:∃ nm q N bs bm sn sub ab col dd k0 k1 k2 k3 k5,K.lookup C=some (excClassObj nm q C N bs bm true sn sub ab col dd k0 k1 k2 k3 k5 b.new_)∧PySem.W.excTail b.tl bm=true
 sa:PySem.W.findIn K (.ref C) "__setattr__"=some (some (.builtin "object.__setattr__"))
 bx:PySem.W.subIn K (.ref C) (.type "BaseException")=some true
 ty:PySem.W.typeIn K (.ref C)=some (.type "type")
 kp:PySem.W.keepIn K (.ref C)=true
section
variable {prog:Program} {w:World} {A:Around} {E:Value→Shared→Prop} {R:Result→Shared→Prop} {hp:Heap} {g:Array GenState} {d:Drawn} {t:Nat} {os:OsState} {b:Bx}
theorem XC {K:PySem.W.Frag} {fn:Str} {tk:Tok} {v:Value} {x C:Addr} {fv:Array Value} {cd:ClassData} (bk:Od b) (X:K.In hp) (ex:hp.get? x=some { cls:=.ref C,data:=.fields fv })
  (ov:PySem.W.excOver K C b.tl=true) (ec:PySem.W.clsIn K C=some cd) (hh:cd.hasDict=true) (en:PySem.W.findIn K (.ref C) fn=some none)
  (go:∀ h' tk' dx,(∀ b o,b≠x→hp.get? b=some o→h'.get? b=some o)→hp.objs.size≤dx→dx≠x→h'.get? x=some { cls:=.ref C,dict:=some dx,data:=.fields fv }→h'.Ns1 dx (fun y=>if y=fn then some v else none)→R (.ok (.ret .none)) ⟨h',g,d,tk',os⟩) :
  codeAny (model prog w) A (.call (.builtin "object.__setattr__") ⟨[.ref x,.str fn tk,v],[]⟩) R ⟨hp,g,d,t,os⟩:=by
 refine PySem.W.osa_openX (r:=none) bk.sto X (ox:={ cls:=.ref C,data:=.fields fv }) (od:=none) ⟨ex,rfl,rfl,trivial⟩ ov (by unfold PySem.W.takerIn;rw [en];rfl) fun onT=> ?_
 have kc:PySem.W.Looks (model prog w) hp (classData C) cd:=PySem.W.looks_clsIn X ec
 have ne:x≠hp.objs.size:=Nat.ne_of_lt (Heap.lt_size ex)
 cases cd with
 | mk nm bs mro ns qn hd sn sb ab col del=>
 cases (show hd=true from hh)
 show wpAny _ _ (Builtin.ObjectAttr.storeInOwnDict (.ref x) (.ref C) (.str fn tk) fn v onT) _ _ _
 unfold Builtin.ObjectAttr.storeInOwnDict Builtin.ObjectAttr.ownDictForStores
 repeat (first | with_reducible refine PySem.HandSPX.store_in_new ?_ ?_ | with_reducible refine wpAny_loadPart_at ex ?_ | with_reducible refine kc.at ?_ | wp_step)
 ·exact ⟨_, #[],_,(Heap.get?_update_ne _ _ _ _ ne.symm).trans (Heap.get?_push_at rfl rfl),rfl,fun e he=>absurd he (by simp),fun _=>rfl⟩
 ·intro h' tk' hn' hs
  have e1:(hp.push { cls:=.type "dict",data:=.dict #[] }).get? x=some { cls:=.ref C,data:=.fields fv }:=Heap.get?_push_of_some _ ex
  exact go h' tk' hp.objs.size (fun q o hb ho=>(hs.2 q (Nat.ne_of_lt (Heap.lt_size ho))).trans ((Heap.get?_update_ne _ _ _ _ hb).trans (Heap.get?_push_of_some _ ho))) (Nat.le_refl _) ne.symm ((hs.2 x ne).trans (Heap.get?_update_self _ e1 rfl)) hn'
end
section
variable {X:Cx} {pins:List (Addr × Obj)} {σ:L2.St} {H:Hp} {s:Shared} {a C:Addr} {f:Str} {y:V} {u:Value} {Q:Unit→Shared→Prop} {E:Value→Shared→Prop} {A:Around} {b:Bx}
theorem XH (bk:Od b) (T:Yo b X.K C) (I:Inv X pins σ H s) (e:H a=some (exo a C none)) (en:PySem.W.findIn X.K (.ref C) f=some none) (ry:RelV y u)
  (go:∀ dx s',H dx=none→dx≠a→Inv X pins σ (upd (upd H dx (exd dx [(f,y)])) a (exo a C (some dx))) s'→Q () s'):wpAny (model X.prog X.w) A (setAttr (.ref a) f u) Q E s:=by
 obtain ⟨nm,q,N,bs,bm,sn,sub,ab,col,dd,k0,k1,k2,k3,k5,eC,tlo⟩:=T.cls
 have ec:PySem.W.clsIn X.K C=some { name:=nm,bases:=bs,mro:=.ref C::bm,ns:=N,qualname:=q,hasDict:=true,slotNames:=sn,subclasses:=sub,abstract:=ab,collection:=col,hasDel:=false }:=by
  unfold PySem.W.clsIn;rw [eC]<;>rfl
 have ov:PySem.W.excOver X.K C b.tl=true:=by
  unfold PySem.W.excOver;rw [ec]
  show (C==C&&PySem.W.excTail b.tl bm)=true
  rw [tlo,beq_self_eq_true];rfl
 obtain ⟨t1,eo⟩:=exo_at I.hok e
 cases s with
 | mk hp g d t os=>
 refine PySem.W.set_plain I.kIn (ox:={ cls:=.ref C,dict:=none,data:=.fields #[.ref t1,.none,.none,.none,.bool false,.none] }) (od:=none) ⟨eo,rfl,rfl,trivial⟩ T.sa (XC bk I.kIn eo ov ec rfl en fun h' tk' dx k dn dne hx hn=> ?_)
 have fr:H dx=none:=I.hok.fresh dn
 have n1:∀ {c:Addr} {o:Obj},hp.get? c=some o→c≠dx:=fun q=>Nat.ne_of_lt (Nat.lt_of_lt_of_le (Heap.lt_size q) dn)
 have n2:∀ {c:Addr},H c=none→c≠a:=fun n z=>by rw [z,e] at n;cases n
 have U:Un X.fs [] H (upd (upd H dx (exd dx [(f,y)])) a (exo a C (some dx))) hp h':=by
  constructor
  ·exact fun c o q n _ _=>k c o (n2 n) q
  ·exact fun c o q n _ _=>⟨o.slots,k c o (n2 n) q⟩
  ·exact fun c o q n _=>by rw [upd_ne (n2 n),upd_ne (n1 q)];exact n
  ·intro c o q _
   by_cases hc:c=a
   ·exact ⟨_,hc ▸ hx⟩
   ·exact ⟨o,k c o hc q⟩
  ·exact fun c xs q=>by rw [upd_ne (at_ne e q exo_tup),upd_ne (ne_of_none q fr)];exact q
  ·exact fun c o v q=>by rw [upd_ne (at_ne e q exo_frz),upd_ne (ne_of_none q fr)];exact q
  ·exact fun c ps q=>⟨#[],by rw [upd_ne (at_ne e q exo_tbl),upd_ne (ne_of_none q fr),q];simp⟩
 refine go dx _ fr dne (I.un (t':=tk') U fun c o q=> ?_)
 by_cases hc:c=a
 ·subst hc;rw [upd_same] at q;cases q;exact exo_ok hx
 rw [upd_ne hc] at q
 by_cases hd:c=dx
 ·subst hd;rw [upd_same] at q;cases q;exact exd_ok hn (relO_put (fs:=[]) ry fun g=>True.intro)
 rw [upd_ne hd] at q
 refine (I.hok c o q).stay (fun m v hm z=>k m v ?_ z) (fun m hm=> ?_) fun m xs hm=> ?_
 ·rcases hm with hm | hm
  ·exact hm ▸ hc
  ·exact at_ne e hm exo_own
 ·rw [upd_ne (at_ne e hm exo_own),upd_ne (ne_of_none hm fr)];exact hm
 ·rw [upd_ne (at_ne e hm exo_tup),upd_ne (ne_of_none hm fr)];exact hm
end
def akY (b:Bx) (K:PySem.W.Frag) (f:Str) (to te:TE):TS:=fun D σ H=>te σ H fun y H1=>to σ H1 fun x H2=>∃ a C:Addr,x=.ref a∧Yo b K C∧PySem.W.findIn K (.ref C) f=some none∧
 H2 a=some (exo a C none)∧∀ dx,H2 dx=none→dx≠a→D.nx σ (upd (upd H2 dx (exd dx [(f,y)])) a (exo a C (some dx)))
theorem agM {X:Cx} {o e:Expr} {to te:TE} {f:Str} {p' pos:Pos} {b:Bx} (bk:Od b) (ho:PE X o to) (he:PE X e te) (hs:swapsWith e (some (.Attribute o f p')) pos.line X.env=pure false:=by rfl):PS X (.Assign [.Attribute o f p'] e pos) (akY b X.K f to te):=
 ⟨fun pins s σ H D I h=>plainObj_wpAny_Assign_Attribute (thn (he.run pins s σ H _ I h) fun v s1 ⟨y,H1,I1,r1,q1⟩=>thn (ho.run pins s1 σ H1 _ I1 q1) fun u s2 ⟨x,H2,I2,r2,a,C,ex,T,en,ea,q⟩=>by
  subst ex
  cases (show u=Value.ref a from r2)
  exact XH bk T I2 ea en r1 fun dx s' n ne J=>⟨σ,_,J,q dx n ne⟩) hs⟩
theorem ahE {P:Program} {w:World} {K:PySem.W.Frag} {mg:Str→Option Value} {base:Heap} {x bF fld n0 n1:Str} {params:Arguments} {body:List Stmt} {scope:Scope} {fI C:Addr} {fd:FuncData} {ps:List Str} {p1 p2 p3 p4:Pos} {b:Bx} (bk:Od b)
  (F:FunD K x bF params body scope [] [] fI fd) (Sc:FnScope [n0,n1] ps scope) (hps:ps.length=2) (hb:body=[.Assign [.Attribute (.Name n0 p1) fld p2] (.Name n1 p3) p4]) (T:Yo b K C) (hno:PySem.W.findIn K (.ref C) fld=some none)
  (v0:Vis scope n0) (v1:Vis scope n1) (d0:(n0==("__debug__":Str))=false∧(n0==("__classdict__":Str))=false) (d1:(n1==("__debug__":Str))=false∧(n1==("__classdict__":Str))=false)
  (hs:∀ env:Env,swapsWith (.Name n1 p3) (some (.Attribute (.Name n0 p1) fld p2)) p4.line env=pure false) :
  FnOk P w K mg base (L2.CX P w) 1 fI fd ps (ahA K C fld):=by
 obtain ⟨oc,od,dV,kV,xJ,pm,an,cI,ct,Xx,rfl,lk,Ba,_,_⟩:=F.ex
 subst hb
 refine fn_of lk Ba Sc (fun vs H Q E ⟨a,v,e,_⟩=>by rw [e,hps];rfl) fun A outer s H vs Q E hr ⟨a,v,e,ha,hq⟩=>⟨_,pss_cons (agM bk (pe_var (i:=0) rfl v0 d0.1 d0.2) (pe_var (i:=1) rfl v1 d1.1 d1.2) (hs _)) pss_nil,?_⟩
 subst e
 exact ⟨v,rfl,.ref a,rfl,a,C,rfl,T,hno,ha,fun dx n ne=>hq dx n ne⟩
structure aeb (P:Program) (w:World) (K:PySem.W.Frag) (mg:Str→Option Value) (base:Heap) (C:Addr) (x f:Str):Prop where
 ex:∃ (b:Bx) (fI:Addr) (fd:FuncData) (ps:List Str),Od b∧FnOk P w K mg base (L2.CX P w) 1 fI fd ps (ahA K C f)∧Yo b K C∧PySem.W.findIn K (.ref C) "__init__"=some (some (.ref fI))∧PySem.W.typeIn K (.ref fI)=some (.type "function")∧Binds K fd ps []∧mg x=some (.ref C)
section
variable {G:bB} {M:aF} {W:WX} {X:Cx} {k:Nat} {c f:Str} {a:Expr} {ca:E} {p pos jA:Pos}
end
end Oz
namespace Oz
open PySem PySem.Spec L2 PyProof.Rows
structure agK (K:PySem.W.Frag) (mg:Str→Option Value) (C:Addr) (x:Str):Prop where
 ex:∃ b:Bx,Od b∧PySem.W.excIn K C b.btl b.new_=true∧mg x=some (.ref C)∧PySem.W.keepIn K (.ref C)=true∧PySem.W.subIn K (.ref C) (.type "BaseException")=some true∧PySem.W.typeIn K (.ref C)=some (.type "type")
section
variable {G:bB} {M:aF} {W:WX} {X:Cx} {k j:Nat} {c m:Str} {p p2 pos jA:Pos}
end
end Oz
namespace Oz
open PySem PySem.Spec L2 PyProof PyProof.Rows
def afo:List (Str × jU)→Str→Option jU
 | [],_=>none
 | p::l,q=>if q=p.1 then some p.2 else afo l q
def dl (k:Str) (d:jU) (l:List (Str × jU)):List (Str × jU):=(k,d)::l
def scB (N ps:List Str) (sc:Scope):Bool:=(match sc.kind with | .function=>true | _=>false)&& !sc.isCoroutine&& !sc.isGenerator&&decide N.Nodup&&(N.take ps.length==ps)&&(ps.all fun x=>match sc.names.lookup x with | some .local=>true | some .cell=>true | _=>false)&&(sc.names.all fun y=>match y.2 with | .free=>false | _=>true)
theorem scp {N ps:List Str} {sc:Scope} (h:scB N ps sc=true):FnScope N ps sc:=by
 simp only [scB,Bool.and_eq_true,Bool.not_eq_true',decide_eq_true_eq,beq_iff_eq,List.all_eq_true] at h
 obtain ⟨⟨⟨⟨⟨⟨h1,h2⟩,h3⟩,h4⟩,h5⟩,h6⟩,h7⟩:=h
 refine ⟨?_,h2,h3,h4,h5,fun x hx=> ?_,fun y hy e=> ?_⟩
 ·revert h1;cases sc.kind<;>simp
 ·have:=h6 x hx
  revert this
  rcases sc.names.lookup x with _ | (_ | _)<;>simp
 ·have:=h7 y hy
  rw [e] at this;simp at this
section
variable {P:Program} {w:World} {K:PySem.W.Frag} {mg:Str→Option Value} {base h:Heap} {G:bB} {nm ql c q x:Str} {st:Stmt} {ps N:List Str} {M M':aF} {d:jU} {n m k:Nat} {C:Addr}
structure FP (G:bB) (mg:Str→Option Value) (nm:Str) (st:Stmt) (ps:List Str):Prop where
 ex:∃ (f:Addr) (fd:FuncData),FunD G.K nm nm (defArgs st) (defBody st) (defScope st) [] [] f fd∧mg nm=some (.ref f)∧Binds G.K fd ps []
structure FM (G:bB) (c nm ql:Str) (st:Stmt) (ps:List Str):Prop where
 ex:∃ (f:Addr) (fd:FuncData),FunD G.K nm ql (defArgs st) (defBody st) (defScope st) [] [] f fd∧PySem.W.findIn G.K (.ref (G.cl c)) nm=some (some (.ref f))∧PySem.W.isFn G.K (.ref f)=true∧Binds G.K fd ps []
abbrev tW (P:Program) (w:World) (mg:Str→Option Value) (base:Heap) (G:bB) (M:aF) (k:Nat) (x:Str) (n:Nat):Prop:=Cal P w G.K mg base G M k x x n
abbrev Pr (P:Program) (w:World) (mg:Str→Option Value) (base:Heap) (G:bB) (k:Nat) (M:aF) (m:Nat) (q nm ql:Str) (st:Stmt) (ps:List Str):Prop:=
 ∀ (f:Addr) (fd:FuncData),FunD G.K nm ql (defArgs st) (defBody st) (defScope st) [] [] f fd→qu P w G.K mg base k f fd ps (spI G M m q)
theorem z0 (hn:m=ps.length:=by rfl) (hM:∀ xs S,M.cal q xs S=.bad:=by exact fun _ _=>rfl):Pr P w mg base G k M m q nm ql st ps:=fun _ _ _=>afY hn hM
abbrev Bd (P:Program) (w:World) (mg:Str→Option Value) (base:Heap) (G:bB) (N:List Str) (ql:Str) (st:Stmt) (M':aF) (n:Nat) (b:Cs):Prop:=
 ∀ (f:Addr) (cI:Value) (A:Around) (outer:List Env) (s:Shared) (H:Hp) (E:XK) [bT G (cxOf (L2.CX P w) P w G.K mg base N ql (defScope st) f cI A outer s H E)],
  Good G (4* n+1) (cxOf (L2.CX P w) P w G.K mg base N ql (defScope st) f cI A outer s H E)→Good G (4* n+3) (cxOf (L2.CX P w) P w G.K mg base N ql (defScope st) f cI A outer s H E)→
  PassesOwn (model (cxOf (L2.CX P w) P w G.K mg base N ql (defScope st) f cI A outer s H E).prog (cxOf (L2.CX P w) P w G.K mg base N ql (defScope st) f cI A outer s H E).w) (cxOf (L2.CX P w) P w G.K mg base N ql (defScope st) f cI A outer s H E).A (cxOf (L2.CX P w) P w G.K mg base N ql (defScope st) f cI A outer s H E).env (cxOf (L2.CX P w) P w G.K mg base N ql (defScope st) f cI A outer s H E).xe→
  Takes (cxOf (L2.CX P w) P w G.K mg base N ql (defScope st) f cI A outer s H E) (fun cls d _ H'=>E cls d H')→
  PSs (cxOf (L2.CX P w) P w G.K mg base N ql (defScope st) f cI A outer s H E) (defBody st) (vM G M' (fun cls d _ H'=>E cls d H') b)
theorem o1 (he:G.er=none) (N:List Str) (hM:∀ xs S,M.cal q xs S=gK M' d xs S) (hb:Bd P w mg base G N ql st M' n d.body)
  (Sc:FnScope N ps (defScope st):=by exact scp (by decide+kernel)) (Rw:d.np=ps.length:=by rfl) (LC:d.nn=N.length:=by rfl):Pr P w mg base G (4* n+4) M d.np q nm ql st ps:=fun f fd F=>
 aiW he (k:=4* n+3) F Sc hM Rw LC fun cI A outer s H E _ g3 hp tk=>hb f cI A outer s H E (g3.le (by omega)) g3 hp tk
theorem cC (F:FP G mg nm st ps) (h:Pr P w mg base G k M m nm nm nm st ps):Cal P w G.K mg base G M k nm nm m:=by
 obtain ⟨f,fd,F,hm,hb⟩:=F.ex
 exact ⟨f,fd,ps,h f fd F,hm,F.kp,hb⟩
theorem cM (hC:∀ c,Cls G.K (G.cl c)) (F:FM G c nm ql st ps) (h:Pr P w mg base G k M m (dot c nm) nm ql st ps):Met P w G.K mg base G M k c nm m:=by
 obtain ⟨f,fd,F,h1,h2,hb⟩:=F.ex
 exact ⟨f,fd,ps,h f fd F,hC _,⟨h1,h2,F.kp⟩,hb⟩
theorem cE (hA:∀ c,zQ G.K (G.cl c)) (ne:PySem.W.findIn G.K (.ref (G.cl c)) "__ne__"=some (some (.builtin "object.__ne__"))) (nf:∀ T:String,T="list"∨T="str"∨T="tuple"→PySem.W.notFirst G.K (G.cl c) (.type T)=true) (F:FM G c "__eq__" ql st ps) (h:Pr P w mg base G k M 2 (dot c "__eq__") "__eq__" ql st ps):EqM P w G.K mg base G M k c:=by
 obtain ⟨f,fd,F,h1,h2,hb⟩:=F.ex
 exact ⟨f,fd,ps,h f fd F,⟨h1,h2,ne,(hA _).hm,nf⟩,hb⟩
theorem cR (F:FM G c "__repr__" ql st ps) (h:Pr P w mg base G k M 1 (dot c "__repr__") "__repr__" ql st ps):RpM P w G.K mg base G M k c:=by
 obtain ⟨f,fd,F,h1,h2,hb⟩:=F.ex
 exact ⟨f,fd,ps,h f fd F,h1,h2,hb⟩
theorem cL (F:FM G c "__len__" ql st ps) (h:Pr P w mg base G k M 1 (dot c "__len__") "__len__" ql st ps):LnM P w G.K mg base G M k c:=by
 obtain ⟨f,fd,F,h1,h2,hb⟩:=F.ex
 exact ⟨f,fd,ps,h f fd F,h1,h2,hb⟩
structure FK (K:PySem.W.Frag) (nm:Str) (st:Stmt):Prop where
 ex:∃ (f:Addr) (oc kV dc pm cd ct:Value) (od an:Option Addr) (sl:Array (Option Value)),PySem.W.nsIn K mainGlobals nm=some (some (.ref f))∧K.lookup f=some ⟨oc,od,.func (PySem.W.fnOf nm nm (defArgs st) (defBody st) (defScope st) .none kV dc pm an cd ct),sl⟩∧PySem.W.codeIn K cd nm=true∧PySem.W.keepIn K (.ref f)=true
structure MK (K:PySem.W.Frag) (C:Addr) (nm ql:Str) (st:Stmt):Prop where
 ex:∃ (f:Addr) (oc kV dc pm cd ct:Value) (od an:Option Addr) (sl:Array (Option Value)),PySem.W.findIn K (.ref C) nm=some (some (.ref f))∧K.lookup f=some ⟨oc,od,.func (PySem.W.fnOf nm ql (defArgs st) (defBody st) (defScope st) .none kV dc pm an cd ct),sl⟩∧PySem.W.codeIn K cd ql=true∧PySem.W.keepIn K (.ref f)=true∧PySem.W.isFn K (.ref f)=true
theorem ai7 {f:Addr} {oc kV dc pm cd ct:Value} {od an:Option Addr} {sl:Array (Option Value)} (a:PySem.W.nsIn K mainGlobals nm=some (some (.ref f))) (b:K.lookup f=some ⟨oc,od,.func (PySem.W.fnOf nm nm (defArgs st) (defBody st) (defScope st) .none kV dc pm an cd ct),sl⟩) (c:PySem.W.codeIn K cd nm=true) (d:PySem.W.keepIn K (.ref f)=true):FK K nm st:=⟨_,_,_,_,_,_,_,_,_,_,a,b,c,d⟩
theorem aj5 {f:Addr} {oc kV dc pm cd ct:Value} {od an:Option Addr} {sl:Array (Option Value)} (a:PySem.W.findIn K (.ref C) nm=some (some (.ref f))) (b:K.lookup f=some ⟨oc,od,.func (PySem.W.fnOf nm ql (defArgs st) (defBody st) (defScope st) .none kV dc pm an cd ct),sl⟩) (c:PySem.W.codeIn K cd ql=true) (d:PySem.W.keepIn K (.ref f)=true) (e:PySem.W.isFn K (.ref f)=true):MK K C nm ql st:=⟨_,_,_,_,_,_,_,_,_,_,a,b,c,d,e⟩
def VN (a:Arguments) (ps:List Str):Bool:=a.posonlyargs.isEmpty&&a.kwonlyargs.isEmpty&&a.vararg.isNone&&a.kwarg.isNone&&(a.args.map (·.arg)==ps)&&decide ps.Nodup
theorem aap {ps:List Str} {us:List Value} (hl:us.length=ps.length):∀ n∈ps,((ps.zip us).lookup n).isSome=true:=by
 induction ps generalizing us with
 | nil=>intro n h;cases h
 | cons p ps ih=>
  intro n h
  match us,hl with
  | u::us,hl=>
   simp only [List.zip_cons_cons,List.lookup_cons]
   by_cases e:n=p
   ·subst e;simp
   ·have:=ih (us:=us) (by simpa using hl) n (by simpa [e] using h)
    rw [beq_false_of_ne e];exact this
theorem afF {ps:List Str} {us:List Value} (hl:us.length=ps.length) (nd:ps.Nodup):ps.filterMap (fun n=>((ps.zip us).lookup n).map (n,·))=ps.zip us:=by
 induction ps generalizing us with
 | nil=>rfl
 | cons p ps ih=>
  match us,hl with
  | u::us,hl=>
   simp only [List.zip_cons_cons,List.filterMap_cons,List.lookup_cons,beq_self_eq_true,Option.map_some]
   congr 1
   refine Eq.trans ?_ (ih (us:=us) (by simpa using hl) (List.nodup_cons.mp nd).2)
   have g:∀ l:List Str,(∀ n∈l,n≠p)→l.filterMap (fun n=>(match n==p with | true=>some u | false=>(ps.zip us).lookup n).map (n,·))=l.filterMap (fun n=>((ps.zip us).lookup n).map (n,·)):=by
    intro l
    induction l with
    | nil=>intro _;rfl
    | cons x l ih=>
     intro h
     simp only [List.filterMap_cons,beq_false_of_ne (h x List.mem_cons_self)]
     rw [ih fun n hn=>h n (List.mem_cons_of_mem _ hn)]
   exact g ps fun n hn e=>(List.nodup_cons.mp nd).1 (e ▸ hn)
theorem Gf {nm ql:Str} {A:Arguments} {body:List Stmt} {sc:Scope} {ps:List Str} (h:VN A ps=true) (kV xJ pm:Value) (an:Option Addr) (cI ct:Value) (us:List Value) (hl:us.length=ps.length) :
  bindArgs (PySem.W.fnOf nm ql A body sc .none kV xJ pm an cI ct) ⟨us,[]⟩=pure (ps.zip us):=by
 obtain ⟨po,ar,va,ko,kd,kw,df⟩:=A
 simp only [VN,Bool.and_eq_true,List.isEmpty_iff,Option.isNone_iff_eq_none,beq_iff_eq,decide_eq_true_eq] at h
 obtain ⟨⟨⟨⟨⟨rfl,rfl⟩,rfl⟩,rfl⟩,hp⟩,nd⟩:=h
 unfold bindArgs
 simp only [PySem.W.fnOf,List.map_nil,List.nil_append,List.append_nil,hp]
 have hx:∀ n∈ps,((ps.zip us).lookup n).isNone=false:=fun n hn=>by have:=aap hl n hn;cases h:(ps.zip us).lookup n<;>simp_all
 have hm:(ps.filter fun n=>((ps.zip us).lookup n).isNone)=[]:=List.filter_eq_nil_iff.mpr fun n hn=>by simp [hx n hn]
 have hs:seqItems? Value.none=(pure none:Sem _):=rfl
 have hf:=afF hl nd
 simp only [List.forIn_nil,pure_bind,hs,hl,Option.getD_none,List.length_nil,Nat.zero_sub,List.drop_nil,Nat.sub_zero,List.take_length,hm,List.isEmpty_nil,Bool.not_true,Bool.false_eq_true,if_false,gt_iff_lt,Nat.lt_irrefl,decide_false,Bool.false_and,List.drop_length,List.zip_nil_left,List.zip_nil_right,List.zip_nil_left,hf]
theorem iW (X:G.K.In h) (GG:h.Ns mainGlobals mg) (F:FK G.K nm st) (hb:VN (defArgs st) ps=true:=by decide+kernel):FP G mg nm st ps:=by
 obtain ⟨f,oc,kV,dc,pm,cd,ct,od,an,sl,a,l,c,k⟩:=F.ex
 have F:=yx (st:=st) l c k (kws:=[]) (.inl rfl)
 exact ⟨f,_,F,PySem.W.mg_of X GG a,aeK F (Gf hb)⟩
theorem Vq (hC:G.cl c=C) (F:MK G.K C nm ql st) (hb:VN (defArgs st) ps=true:=by decide+kernel):FM G c nm ql st ps:=by
 obtain ⟨f,oc,kV,dc,pm,cd,ct,od,an,sl,a,l,c,k,g⟩:=F.ex
 have F:=yx (st:=st) l c k (kws:=[]) (.inl rfl)
 exact ⟨f,_,F,by rw [hC];exact a,g,aeK F (Gf hb)⟩
end
end Oz
namespace Oz
open PySem PySem.Spec L2 PyProof.Rows
abbrev abv (X:Cx) (W:WX):Prop:=L2N.Takes X W
theorem Y8 {X:Cx} {W:WX} (tk:Takes X W):abv X W:=fun u s' ⟨a,B,sI,pins,σ,H,cls,d,e,I,nb,up,sky,na,os,ag,w⟩=>tk u s' ⟨a,B,sI,pins,σ,H,cls,d,e,I,nb,up,(match sky with
 | .inl ⟨x1,x2,x3,oe,vs,x4,x5,x6⟩=>.inl ⟨x1,x2,x3,oe,vs,x4,x5.zc,x6⟩
 | .inr (.inl f)=>.inr (.inl (L2H.flyingZ_imp (fun o z=>z.zc) f))
 | .inr (.inr f)=>.inr (.inr ⟨f.1,f.2.1,f.2.2.1,L2H.tracedZ_imp (fun o z=>z.zc) f.2.2.2⟩)),na,os,ag,w⟩
structure Qi (P:Program) (w:World) (K:PySem.W.Frag) (mg:Str→Option Value) (base:Heap) (k:Nat) (f:Addr) (fd:FuncData) (ps:List Str) (sp:Sp):Prop where
 len:∀ vs H Q E,sp vs H Q E→vs.length=ps.length
 run:∀ (A:Around) (outer:List Env) (s:Shared) (H:Hp) (args:Args) (us:List Value) (vs:List V) (Q:VK) (E:XK),Room k A→A.guards=some []→Env0 P w K mg base A outer s H→BindsTo s fd args (ps.zip us)→Vals vs us→sp vs H Q E→
  codeAny (model P w) A (.call (.ref f) args) (CR (L2N.CX P w) outer P w H s Q E) s
theorem ai2 {P:Program} {w:World} {outer:List Env} {H:Hp} {s s':Shared} {E:XK} {u:Value} (h:L2N.CX P w outer H s E u s'):L2.CX P w outer H s E u s':=by
 obtain ⟨a,B,H',cls,d,e,fl,hok,ub,na,os,ag,hE⟩:=h
 exact ⟨a,B,H',cls,d,e,L2H.flyingZ_imp (fun o z=>z.zc) fl,hok,ub,na,os,ag,hE⟩
section
variable {P:Program} {w:World} {K:PySem.W.Frag} {mg:Str→Option Value} {base:Heap} {j k:Nat} {f:Addr} {fd:FuncData} {ps:List Str} {sp:Sp}
theorem Qi.toG (F:Qi P w K mg base k f fd ps sp):qu P w K mg base k f fd ps sp:=⟨F.len,fun A outer s H args us vs Q E hr hg e0 hb rv h=>codeAny_mono (F.run A outer s H args us vs Q E hr hg e0 hb rv h) fun r s' hq=>by
 match r,hq with
 | .error e,hq=>exact ai2 hq
 | .ok (.ret u),hq=>exact hq
 | .ok .next,hq=>exact hq
 | .ok .brk,hq=>exact hq
 | .ok .cont,hq=>exact hq⟩
theorem Qi.mono (F:Qi P w K mg base j f fd ps sp) (h:j≤k):Qi P w K mg base k f fd ps sp:=⟨F.len,fun A outer s H args us vs Q E hr=>F.run A outer s H args us vs Q E (hr.mono h)⟩
end
section
variable {G:bB} {k n:Nat} {X:Cx} {M:aF} {W:WX} {f C:Addr} {fd:FuncData} {ps:List Str} {sp:Sp} {dvs:List V} {ds:List Value} {q x m c:Str} {a e:Expr} {es:List Expr} {ca:E} {cU cs:Es} {p pos cH:Pos} {mv:List Value} {ks:List Str} {dxs:List Vl}
theorem W9 {pins:List (Addr × Obj)} {σ:L2.St} {H:Hp} {s s':Shared} {e:Value} (tk:L2N.Takes X W) (I:Inv X pins σ H s) (h:L2N.CX X.prog X.w X.stack H s (fun c d H'=>W c d σ H') e s'):X.xe e s':=
 tk e s' (L2N.XE.of_call I (fun _ _ _ h=>h) h)
theorem ago {pins:List (Addr × Obj)} {σ:L2.St} {H:Hp} {s:Shared} {Q:VK} {us:List Value} {vs:List V} (F:Qi X.prog X.w X.K X.mg X.base k f fd ps sp) (hr:Room k X.A) (hg:X.A.guards=some []) (hb:Binds X.K fd ps ds) (hd:Vals dvs ds) (tk:L2N.Takes X W)
  (I:Inv X pins σ H s) (r:Vals vs us) (h:sp (vs++dvs) H Q (fun c d H'=>W c d σ H')):wpAny (model X.prog X.w) X.A (call (.ref f) us) (EP X pins σ Q) X.xe s:=by
 have rr:=r.append hd
 have len:(us++ds).length=ps.length:=rr.length.symm.trans (F.len _ _ _ _ h)
 refine wpAny_call (codeAny_mono (F.run X.A X.stack s H ⟨us,[]⟩ (us++ds) (vs++dvs) Q _ hr hg I.env0 (hb s us I.kIn len) rr h) ?_)
 intro r' s' hq
 match r',hq with
 | .error e,hq=>exact W9 tk I hq
 | .ok (.ret u),hq=>exact I.after hq
 | .ok .next,hq=>exact hq.elim
 | .ok .brk,hq=>exact hq.elim
 | .ok .cont,hq=>exact hq.elim
theorem YH [bT G X] (g:Good G (k+1) X) (F:Qi X.prog X.w X.K X.mg X.base k f fd ps (spI G M n q)) (hg:Gl X x) (hm:X.mg x=some (.ref f)) (hk:PySem.W.keepIn X.K (.ref f)=true) {dxs:List Vl} {dvs:List V} (hb:Binds X.K fd ps ds) (hd:Vals dvs ds) (hc:Bg G dxs dvs) (tk:L2N.Takes X W)
  (ha:PA X (e::es) (tA G M W cU)) (sX:(x==("__debug__":Str))=false:=by decide) (he:starEach (e::es) X.env=(false,eval e X.env)::starEach es X.env:=by rfl) (jt:(backTo pos (starEach es X.env)).any (·.1)=false:=by rfl) :
  PE X (.Call (.Name x p) (e::es) [] pos) (tCl X k n G M q W cU dxs):=by
 refine ⟨fun pins s σ H Q I ⟨ρ,η,S,s0,r,h⟩=> ?_⟩
 have hr:Room k X.A:=g.rm.mono (Nat.le_succ _)
 refine wpAny_Call_Name_kw (ld_glob I hg hm ?_ sX)
 refine PySem.W.callWith_K (h₀:=X.base) I.ok.mod.kin hk (thn (ha.run pos pins s σ H (fun vs H1=>∃ xs ρ1 S1,Step ρ H ρ1 H1∧bf G ρ1 H1 S1∧au G ρ1 H1 xs vs∧xs.length+dxs.length=n∧PR G W σ ρ1 H1 (M.cal q (xs++dxs) S1) (okR G H1 Q)) I ⟨ρ,η,S,s0,r,h.mono fun ρ1 H1 xs S1 bU s1 hl vs hv=>⟨xs,ρ1,S1,bU,s1,hv,hl⟩⟩) fun us s1 ⟨vs,H1,I1,rv,xs,ρ1,S1,bU,sm1,hv,hl,hp⟩=>⟨I1.kIn,?_⟩) he jt
 refine ago F hr g.N7 hb hd tk I1 rv ⟨?_,ρ1,S1,xs++dxs,sm1,hv.append (hc _ _),PR.vo hp⟩
 rw [List.length_append,← hv.length,← (hc ρ1 H1).length];exact hl
theorem aaG {C:Addr} {sp:Sp} {pins:List (Addr × Obj)} {σ:L2.St} {H:Hp} {s:Shared} {Q:VK} {us ws:List Value} {vs zs:List V} (mk:Mk X.K C f) (F:Qi X.prog X.w X.K X.mg X.base k f fd ps sp) (hr:Room (k+1) X.A) (hg:X.A.guards=some []) (hb:KBn X.K fd ps (n+1) ks (fun us ws=>us++ws++mv) (fun vs zs=>vs++zs++dvs)) (tk:L2N.Takes X W)
  (I:Inv X pins σ H s) (r:Vals vs us) (rz:Vals zs ws) (l1:vs.length=n) (l2:zs.length=ks.length)
  (h:∀ x dx,H x=none→H dx=none→dx≠x→sp (.ref x::(vs++zs++dvs)) (upd (upd H dx (.own x)) x (.ins C dx [])) (fun v H2=>v=.non∧Q (.ref x) H2) (fun c d H'=>W c d σ H')) :
  wpAny (model X.prog X.w) X.A (call (.ref C) us (ks.zip ws)) (EP X pins σ Q) X.xe s:=by
 have q0:=h (s.heap.objs.size+1) s.heap.objs.size (I.hok.fresh (Nat.le_succ _)) (I.hok.fresh (Nat.le_refl _)) (Nat.ne_of_lt (Nat.lt_succ_self _))
 have J:=Inv.made (C:=C) I
 have r1:Vals (V.ref (s.heap.objs.size+1)::vs) (Value.ref (s.heap.objs.size+1)::us):=.cons rfl r
 have rr:=hb.rel r1 rz
 have n1:(Value.ref (s.heap.objs.size+1)::us).length=n+1:=by rw [List.length_cons,← r.length,l1]
 refine wpAny_call (make_map (f:=f) I.kIn mk.makes mk.init (beq_iff_eq.mp mk.fn) (codeAny_mono (F.run _ X.stack _ _ ⟨Value.ref (s.heap.objs.size+1)::us,ks.zip ws⟩ _ _ _ _ (hr.make C us (ks.zip ws)) (BJ hg)
  (J.env0.make C us (ks.zip ws)) (hb.to _ (Value.ref (s.heap.objs.size+1)::us) ws J.kIn n1 (rz.length.symm.trans l2)) rr q0) ?_))
 intro r' s' hq
 match r',hq with
 | .error e,hq=>exact W9 (σ:=σ) tk J hq
 | .ok (.ret u),hq=>
  obtain ⟨v,H',J3,rv,ev,q3⟩:=J.after hq
  subst ev
  exact ⟨rv,V.ref (s.heap.objs.size+1),H',J3,rfl,q3⟩
 | .ok .next,hq=>exact hq.elim
 | .ok .brk,hq=>exact hq.elim
 | .ok .cont,hq=>exact hq.elim
theorem adn [bT G X] (g:Good G (k+1) X) (F:Qi X.prog X.w X.K X.mg X.base k f fd ps (spI G M (n+1+dxs.length) (dot c "__init__"))) (mk:Mk X.K (G.cl c) f) (hg:Gl X x) (hm:X.mg x=some (.ref (G.cl c))) (hb:KBn X.K fd ps (n+1) [] (fun us ws=>us++ws++mv) (fun vs zs=>vs++zs++dvs)) (hc:Bg G dxs dvs) (tk:L2N.Takes X W)
  (ha:PA X (e::es) (tA G M W cU)) (hn:cU.len=n) (sX:(x==("__debug__":Str))=false:=by decide) (he:starEach (e::es) X.env=(false,eval e X.env)::starEach es X.env:=by rfl) (jt:(backTo pos (starEach es X.env)).any (·.1)=false:=by rfl) :
  PE X (.Call (.Name x p) (e::es) [] pos) (tF G M W (.new c (cU.app dxs))):=by
 refine ⟨fun pins s σ H Q I h0=> ?_⟩
 have agi:cU.cat .nil=cU:=by
  have:∀ c:Es,c.cat .nil=c:=fun c=>by
   induction c using Es.rec (motive_1:=fun _=>True) (motive_2:=fun _=>True) (motive_3:=fun _=>True) (motive_5:=fun _=>True)<;>first | trivial | rfl | (simp only [Es.cat];rename_i ih;rw [ih])
  exact this cU
 obtain ⟨ρ,η,S,s0,r,h⟩:=ZV (ks:=[]) (kes:=.nil) hn rfl (by rw [agi];exact h0)
 refine wpAny_Call_Name_kw (ld_glob I hg hm ?_ sX)
 refine PySem.W.callWith_K (h₀:=X.base) I.ok.mod.kin mk.kp (thn (ha.run pos pins s σ H (fun vs H1=>∃ xs ρ1 S1,Step ρ H ρ1 H1∧bf G ρ1 H1 S1∧au G ρ1 H1 xs vs∧xs.length=n∧PR G W σ ρ1 H1 (evs M .nil η S1) fun ρ2 H2 ys S2=>ys.length=0∧
  PR G W σ ρ2 H2 (Cq S2 (M.cal (dot c "__init__") (.ref S2.length::(xs++ys++dxs)) (S2++[.ins c [] []]))) (Ci G H Q)) I ⟨ρ,η,S,s0,r,h.mono fun ρ1 H1 xs S1 bU s1 h1 vs hv=>⟨xs,ρ1,S1,bU,s1,hv,h1⟩⟩) fun us s1 ⟨vs,H1,I1,rv,xs,ρ1,S1,bU,sm1,hv,hl,hp⟩=>⟨I1.kIn,?_⟩) he jt
 simp only [evs] at hp
 obtain ⟨_,zG⟩:=hp.here sm1
 rw [List.append_nil] at zG
 refine aaG (ks:=[]) (ws:=[]) (zs:=[]) mk F g.rm g.N7 hb tk I1 rv .nil (by rw [← hv.length];exact hl) rfl fun y dx hy Zk ne=> ?_
 rw [List.append_nil]
 exact S9 s0 bU sm1 hy Zk ne (hv.append (hc _ _)) (by simp only [List.length_append];omega) zG
end
section
variable {P:Program} {w:World} {K:PySem.W.Frag} {mg:Str→Option Value} {base:Heap} {G:bB} {M:aF} {W:WX} {X:Cx} {k n:Nat} {x q c m:Str} {a b e:Expr} {es:List Expr} {ca cb:E} {cU cs kes:Es} {p pos cH:Pos} {dxs:List Vl} {ks:List Str} {kws:List Keyword}
structure aaC (P:Program) (w:World) (K:PySem.W.Frag) (mg:Str→Option Value) (base:Heap) (G:bB) (M:aF) (k:Nat) (x q:Str) (n:Nat):Prop where
 ex:∃ (f:Addr) (fd:FuncData) (ps:List Str),Qi P w K mg base k f fd ps (spI G M n q)∧mg x=some (.ref f)∧PySem.W.keepIn K (.ref f)=true∧Binds K fd ps []
structure ab4 (P:Program) (w:World) (K:PySem.W.Frag) (mg:Str→Option Value) (base:Heap) (G:bB) (M:aF) (k:Nat) (x c:Str) (n:Nat) (ks:List Str) (dxs:List Vl):Prop where
 ex:∃ (f:Addr) (fd:FuncData) (ps:List Str) (mv:List Value) (dvs:List V),Qi P w K mg base k f fd ps (spI G M (n+1+ks.length+dxs.length) (dot c "__init__"))∧Mk K (G.cl c) f∧mg x=some (.ref (G.cl c))∧KBn K fd ps (n+1) ks (fun us ws=>us++ws++mv) (fun vs zs=>vs++zs++dvs)∧Bg G dxs dvs
theorem aaC.toG (c:aaC P w K mg base G M k x q n):Cal P w K mg base G M k x q n:=let ⟨f,fd,ps,F,r⟩:=c.ex;⟨f,fd,ps,F.toG,r⟩
theorem ab4.toG (c:ab4 P w K mg base G M k x q n ks dxs):Mak P w K mg base G M k x q n ks dxs:=let ⟨f,fd,ps,mv,dvs,F,r⟩:=c.ex;⟨f,fd,ps,mv,dvs,F.toG,r⟩
theorem cvN [bT G X] (g:Good G (k+1) X) (c:aaC X.prog X.w X.K X.mg X.base G M k x q n) (tk:L2N.Takes X W) (ha:PA X (e::es) (tA G M W cU)) (hn:cU.len=n:=by rfl) (hg:Gl X x:=by rfl) (sX:(x==("__debug__":Str))=false:=by decide) (he:starEach (e::es) X.env=(false,eval e X.env)::starEach es X.env:=by rfl) (jt:(backTo pos (starEach es X.env)).any (·.1)=false:=by rfl):PE X (.Call (.Name x p) (e::es) [] pos) (tE G M W (.call q cU)):=by
 obtain ⟨f,fd,ps,F,hm,hk,hb⟩:=c.ex
 refine (YH g F hg hm hk (dxs:=[]) (dvs:=[]) hb .nil (fun _ _=>au.nil) tk ha sX he jt).imp fun σ H Q h=>CN (fun η S xs S1 h=> ?_) (by rw [Es.oH];exact h)
 rw [mJ _ _ _ _ _ h,hn];rfl
theorem nwN [bT G X] (g:Good G (k+1) X) (cm:ab4 X.prog X.w X.K X.mg X.base G M k x c n [] dxs) (tk:L2N.Takes X W) (ha:PA X (e::es) (tA G M W cU)) (hn:cU.len=n:=by rfl) (hcs:cs=cU.app dxs:=by simp only [Es.app,Es.cat]<;>rfl) (hg:Gl X x:=by rfl) (sX:(x==("__debug__":Str))=false:=by decide) (he:starEach (e::es) X.env=(false,eval e X.env)::starEach es X.env:=by rfl) (jt:(backTo pos (starEach es X.env)).any (·.1)=false:=by rfl):PE X (.Call (.Name x p) (e::es) [] pos) (tF G M W (.new c cs)):=by
 obtain ⟨f,fd,ps,mv,dvs,F,mk,hm,hb,hc⟩:=cm.ex
 subst hcs
 exact adn g F mk hg hm hb hc tk ha hn sX he jt
end
section
variable {G:bB} {P:Program} {w:World} {mg:Str→Option Value} {base:Heap} {K:PySem.W.Frag}
theorem ajO {k:Nat} {f:Addr} {x bF q:Str} {params:Arguments} {body:List Stmt} {scope:Scope} {dvs:List V} {kws:List (Str × V)} {fd:FuncData} {N ps:List Str} {M M':aF} {d:jU} (F:FunD K x bF params body scope dvs kws f fd) (Sc:FnScope N ps scope)
  (hM:∀ xs S,M.cal q xs S=gK M' d xs S) (Rw:d.np=ps.length) (LC:d.nn=N.length)
  (pO:∀ (cI:Value) (A:Around) (outer:List Env) (s:Shared) (H:Hp) (E:XK),Room k (A.deeper (envOfC bF scope s.heap.objs.size f cI))→A.guards=some []→PSs (cxOf (L2N.CX P w) P w K mg base N bF scope f cI A outer s H E) body (vM G M' (fun cls d _ H'=>E cls d H') d.body)) :
  Qi P w K mg base (k+1) f fd ps (spI G M d.np q):=by
 obtain ⟨oc,od,dV,kV,xJ,pm,an,cI,ct,Xx,rfl,lk,Ba,_,_⟩:=F.ex
 refine ⟨fun vs H Q E h=>h.1.trans Rw,fun A outer s H args us vs Q E hr hgd e0 hb r Cp=> ?_⟩
 obtain ⟨Bp,ρ,S,xs,sim,hxs,hp⟩:=Cp
 rw [hM] at hp
 have pl:vs.length=ps.length:=Bp.trans Rw
 have ul:K.In s.heap:=e0.mod.kin.keeps fun b o e=>(e0.bs b o e).1
 have Gq:s.heap.NoLimit:=e0.mod.nolimit.keeps fun b o e=>(e0.bs b o e).1
 refine codeAny_call_function hr.depth (ul _ _ lk) rfl Sc.co Sc.gen rfl (PySem.W.codeRec_of ul Ba) (hb _ _ _ _ (wpAny_newFunctionEnv_cells Sc.kind (fun ⟨n,v⟩ hy=>(Sc.par n (List.of_mem_zip hy).1).imp id fun z=>⟨z,PySem.W.cellsFrom_some _ _ _ (.inl z)⟩) fun env he s1 x=> ?_))
 subst he
 refine ⟨Gq.keeps x.toInCall.keep,codeAny_func ?_⟩
 have xj:Inv (cxOf (L2N.CX P w) P w K mg base N bF scope f cI A outer s H E) [] (L2.start N vs) H s1:=inv_start Sc hr.hd e0 pl r x
 have U7:=(pO cI A outer s H E (hr.deeper _) hgd).run [] s1 (L2.start N vs) H { nx:=fun _ H'=>Q .non H',rt:=Q } xj ⟨ρ,_,S,sim,Gp LC hxs,Ur sim (hxs.length.trans Bp) hp⟩
 refine wpAny_mono U7 (fun fl s' hs=> ?_) fun _ _ z=>z
 cases fl with
 | ret u=>obtain ⟨v,σ',H',J,rv,z⟩:=hs;exact ⟨v,H',J.os,J.bare,J.base,J.hok,rv,z⟩
 | next=>obtain ⟨σ',H',J,z⟩:=hs;exact ⟨.non,H',J.os,J.bare,J.base,J.hok,rfl,z⟩
 | brk=>obtain ⟨_,_,_,z⟩:=hs;exact z.elim
 | cont=>obtain ⟨_,_,_,z⟩:=hs;exact z.elim
theorem abl {k:Nat} {f:Addr} {bF:Str} {scope:Scope} {N ps:List Str} {cI:Value} {A:Around} {outer:List Env} {s:Shared} {H:Hp} {E:XK} (Sc:FnScope N ps scope) (hr:Room k (A.deeper (envOfC bF scope s.heap.objs.size f cI))) (hg:A.guards=some []) (hge:G.er=none):Good G k (cxOf (L2N.CX P w) P w G.K mg base N bF scope f cI A outer s H E):=⟨rfl,Sc.nd,⟨hr.dp,hr.un⟩,hg,fun e h=>by rw [hge] at h;cases h⟩
theorem abF {k:Nat} {f:Addr} {bF:Str} {scope:Scope} {N:List Str} {cI:Value} {A:Around} {outer:List Env} {s:Shared} {H:Hp} {E:XK} (hr:Room k (A.deeper (envOfC bF scope s.heap.objs.size f cI))) (hge:G.er=none):bT G (cxOf (L2N.CX P w) P w G.K mg base N bF scope f cI A outer s H E):=⟨rfl,hr.hd,hge⟩
theorem abe (hge:G.er=none) {k:Nat} {f:Addr} {x bF q:Str} {params:Arguments} {body:List Stmt} {scope:Scope} {dvs:List V} {kws:List (Str × V)} {fd:FuncData} {N ps:List Str} {M M':aF} {d:jU} (F:FunD G.K x bF params body scope dvs kws f fd) (Sc:FnScope N ps scope)
  (hM:∀ xs S,M.cal q xs S=gK M' d xs S) (Rw:d.np=ps.length) (LC:d.nn=N.length)
  (pO:∀ (cI:Value) (A:Around) (outer:List Env) (s:Shared) (H:Hp) (E:XK) [bT G (cxOf (L2N.CX P w) P w G.K mg base N bF scope f cI A outer s H E)],Good G k (cxOf (L2N.CX P w) P w G.K mg base N bF scope f cI A outer s H E)→
   PassesOwn (model (cxOf (L2N.CX P w) P w G.K mg base N bF scope f cI A outer s H E).prog (cxOf (L2N.CX P w) P w G.K mg base N bF scope f cI A outer s H E).w) (cxOf (L2N.CX P w) P w G.K mg base N bF scope f cI A outer s H E).A (cxOf (L2N.CX P w) P w G.K mg base N bF scope f cI A outer s H E).env (cxOf (L2N.CX P w) P w G.K mg base N bF scope f cI A outer s H E).xe→
   L2N.Takes (cxOf (L2N.CX P w) P w G.K mg base N bF scope f cI A outer s H E) (fun cls d _ H'=>E cls d H')→PSs (cxOf (L2N.CX P w) P w G.K mg base N bF scope f cI A outer s H E) body (vM G M' (fun cls d _ H'=>E cls d H') d.body)) :
  Qi P w G.K mg base (k+1) f fd ps (spI G M d.np q):=
 ajO F Sc hM Rw LC fun cI A outer s H E hr hg=>haveI:=abF (G:=G) (P:=P) (w:=w) (mg:=mg) (base:=base) (N:=N) (outer:=outer) (H:=H) (E:=E) hr hge;pO cI A outer s H E (abl Sc hr hg hge) (L2.passes_of rfl) (L2N.takes_of rfl rfl rfl rfl)
theorem Vh {K:PySem.W.Frag} {k n:Nat} {f:Addr} {fd:FuncData} {ps:List Str} {M:aF} {q:Str} (hn:n=ps.length) (hM:∀ xs S,M.cal q xs S=.bad):Qi P w K mg base k f fd ps (spI G M n q):=
 ⟨fun vs H Q E h=>h.1.trans hn,fun A outer s H args us vs Q E hr hgd e0 hb r Cp=>by
  obtain ⟨_,ρ,S,xs,_,_,hp⟩:=Cp
  rw [hM] at hp
  exact hp.elim⟩
end
section
variable {P:Program} {w:World} {K:PySem.W.Frag} {mg:Str→Option Value} {base h:Heap} {G:bB} {nm ql c q x:Str} {st:Stmt} {ps N:List Str} {M M':aF} {d:jU} {n m k:Nat} {C:Addr}
abbrev PrQ (P:Program) (w:World) (mg:Str→Option Value) (base:Heap) (G:bB) (k:Nat) (M:aF) (m:Nat) (q nm ql:Str) (st:Stmt) (ps:List Str):Prop:=
 ∀ (f:Addr) (fd:FuncData),FunD G.K nm ql (defArgs st) (defBody st) (defScope st) [] [] f fd→Qi P w G.K mg base k f fd ps (spI G M m q)
abbrev BdQ (P:Program) (w:World) (mg:Str→Option Value) (base:Heap) (G:bB) (N:List Str) (ql:Str) (st:Stmt) (M':aF) (n:Nat) (b:Cs):Prop:=
 ∀ (f:Addr) (cI:Value) (A:Around) (outer:List Env) (s:Shared) (H:Hp) (E:XK) [bT G (cxOf (L2N.CX P w) P w G.K mg base N ql (defScope st) f cI A outer s H E)],
  Good G (4* n+1) (cxOf (L2N.CX P w) P w G.K mg base N ql (defScope st) f cI A outer s H E)→Good G (4* n+3) (cxOf (L2N.CX P w) P w G.K mg base N ql (defScope st) f cI A outer s H E)→
  PassesOwn (model (cxOf (L2N.CX P w) P w G.K mg base N ql (defScope st) f cI A outer s H E).prog (cxOf (L2N.CX P w) P w G.K mg base N ql (defScope st) f cI A outer s H E).w) (cxOf (L2N.CX P w) P w G.K mg base N ql (defScope st) f cI A outer s H E).A (cxOf (L2N.CX P w) P w G.K mg base N ql (defScope st) f cI A outer s H E).env (cxOf (L2N.CX P w) P w G.K mg base N ql (defScope st) f cI A outer s H E).xe→
  L2N.Takes (cxOf (L2N.CX P w) P w G.K mg base N ql (defScope st) f cI A outer s H E) (fun cls d _ H'=>E cls d H')→
  PSs (cxOf (L2N.CX P w) P w G.K mg base N ql (defScope st) f cI A outer s H E) (defBody st) (vM G M' (fun cls d _ H'=>E cls d H') b)
theorem z0N (hn:m=ps.length:=by rfl) (hM:∀ xs S,M.cal q xs S=.bad:=by exact fun _ _=>rfl):PrQ P w mg base G k M m q nm ql st ps:=fun _ _ _=>Vh hn hM
theorem o1N (he:G.er=none) (N:List Str) (hM:∀ xs S,M.cal q xs S=gK M' d xs S) (hb:BdQ P w mg base G N ql st M' n d.body)
  (Sc:FnScope N ps (defScope st):=by exact scp (by decide+kernel)) (Rw:d.np=ps.length:=by rfl) (LC:d.nn=N.length:=by rfl):PrQ P w mg base G (4* n+4) M d.np q nm ql st ps:=fun f fd F=>
 abe he (k:=4* n+3) F Sc hM Rw LC fun cI A outer s H E _ g3 hp tk=>hb f cI A outer s H E (g3.le (by omega)) g3 hp tk
theorem cCN (F:FP G mg nm st ps) (h:PrQ P w mg base G k M m nm nm nm st ps):aaC P w G.K mg base G M k nm nm m:=by
 obtain ⟨f,fd,F,hm,hb⟩:=F.ex
 exact ⟨f,fd,ps,h f fd F,hm,F.kp,hb⟩
abbrev WD (P:Program) (w:World) (mg:Str→Option Value) (base:Heap) (G:bB) (M:aF) (k:Nat) (x:Str) (n:Nat):Prop:=aaC P w G.K mg base G M k x x n
end
end Oz
namespace Oz
open PySem PySem.Spec L2 PyProof.Rows
abbrev G4 (X:Cx) (W:WX):Prop:=∀ (pins:List (Addr × Obj)) (σ:L2.St) (H:Hp) (s:Shared) (e:Value) (s':Shared),Inv X pins σ H s→L2.CX X.prog X.w X.stack H s (fun c d H'=>W c d σ H') e s'→X.xe e s'
section
variable {G:bB} {k n:Nat} {X:Cx} {M:aF} {W:WX} {f C:Addr} {fd:FuncData} {ps:List Str} {sp:Sp} {dvs:List V} {ds:List Value} {q x m c:Str} {a e:Expr} {es:List Expr} {ca:E} {cU cs:Es} {p pos cH:Pos} {mv:List Value} {ks:List Str} {dxs:List Vl}
theorem afH {pins:List (Addr × Obj)} {σ:L2.St} {H:Hp} {s:Shared} {Q:VK} {us:List Value} {vs:List V} (F:qu X.prog X.w X.K X.mg X.base k f fd ps sp) (hr:Room k X.A) (hg:X.A.guards=some []) (hb:Binds X.K fd ps ds) (hd:Vals dvs ds) (tk:G4 X W)
  (I:Inv X pins σ H s) (r:Vals vs us) (h:sp (vs++dvs) H Q (fun c d H'=>W c d σ H')):wpAny (model X.prog X.w) X.A (call (.ref f) us) (EP X pins σ Q) X.xe s:=by
 have rr:=r.append hd
 have len:(us++ds).length=ps.length:=rr.length.symm.trans (F.len _ _ _ _ h)
 refine wpAny_call (codeAny_mono (F.run X.A X.stack s H ⟨us,[]⟩ (us++ds) (vs++dvs) Q _ hr hg I.env0 (hb s us I.kIn len) rr h) ?_)
 intro r' s' hq
 match r',hq with
 | .error e,hq=>exact tk _ _ _ _ _ _ I hq
 | .ok (.ret u),hq=>exact I.after hq
 | .ok .next,hq=>exact hq.elim
 | .ok .brk,hq=>exact hq.elim
 | .ok .cont,hq=>exact hq.elim
theorem X3 [bT G X] (g:Good G (k+1) X) (F:qu X.prog X.w X.K X.mg X.base k f fd ps (spI G M n q)) (hg:Gl X x) (hm:X.mg x=some (.ref f)) (hk:PySem.W.keepIn X.K (.ref f)=true) {dxs:List Vl} {dvs:List V} (hb:Binds X.K fd ps ds) (hd:Vals dvs ds) (hc:Bg G dxs dvs) (tk:G4 X W)
  (ha:PA X (e::es) (tA G M W cU)) (sX:(x==("__debug__":Str))=false:=by decide) (he:starEach (e::es) X.env=(false,eval e X.env)::starEach es X.env:=by rfl) (jt:(backTo pos (starEach es X.env)).any (·.1)=false:=by rfl) :
  PE X (.Call (.Name x p) (e::es) [] pos) (tCl X k n G M q W cU dxs):=by
 refine ⟨fun pins s σ H Q I ⟨ρ,η,S,s0,r,h⟩=> ?_⟩
 have hr:Room k X.A:=g.rm.mono (Nat.le_succ _)
 refine wpAny_Call_Name_kw (ld_glob I hg hm ?_ sX)
 refine PySem.W.callWith_K (h₀:=X.base) I.ok.mod.kin hk (thn (ha.run pos pins s σ H (fun vs H1=>∃ xs ρ1 S1,Step ρ H ρ1 H1∧bf G ρ1 H1 S1∧au G ρ1 H1 xs vs∧xs.length+dxs.length=n∧PR G W σ ρ1 H1 (M.cal q (xs++dxs) S1) (okR G H1 Q)) I ⟨ρ,η,S,s0,r,h.mono fun ρ1 H1 xs S1 bU s1 hl vs hv=>⟨xs,ρ1,S1,bU,s1,hv,hl⟩⟩) fun us s1 ⟨vs,H1,I1,rv,xs,ρ1,S1,bU,sm1,hv,hl,hp⟩=>⟨I1.kIn,?_⟩) he jt
 refine afH F hr g.N7 hb hd tk I1 rv ⟨?_,ρ1,S1,xs++dxs,sm1,hv.append (hc _ _),PR.vo hp⟩
 rw [List.length_append,← hv.length,← (hc ρ1 H1).length];exact hl
theorem cvC [bT G X] (g:Good G (k+1) X) (c:Cal X.prog X.w X.K X.mg X.base G M k x q n) (tk:G4 X W) (ha:PA X (e::es) (tA G M W cU)) (hn:cU.len=n:=by rfl) (hg:Gl X x:=by rfl) (sX:(x==("__debug__":Str))=false:=by decide) (he:starEach (e::es) X.env=(false,eval e X.env)::starEach es X.env:=by rfl) (jt:(backTo pos (starEach es X.env)).any (·.1)=false:=by rfl):PE X (.Call (.Name x p) (e::es) [] pos) (tE G M W (.call q cU)):=by
 obtain ⟨f,fd,ps,F,hm,hk,hb⟩:=c.ex
 refine (X3 g F hg hm hk (dxs:=[]) (dvs:=[]) hb .nil (fun _ _=>au.nil) tk ha sX he jt).imp fun σ H Q h=>CN (fun η S xs S1 h=> ?_) (by rw [Es.oH];exact h)
 rw [mJ _ _ _ _ _ h,hn];rfl
end
abbrev IW (X:Cx) (s:Shared) (H:Hp) (scope:Scope) (ce:Env) (fp:List Addr) (E:XK):Cx:={ X.blk s H scope ce fp with xe:=fun e s'=>∃ pins σ H1 s1,Inv (X.blk s H scope ce fp) pins σ H1 s1∧L2.CX X.prog X.w X.stack H1 s1 E e s' }
section
variable {X:Cx}
theorem Zb {s:Shared} {H:Hp} {scope:Scope} {ce:Env} {fp:List Addr} {E:XK}:G4 (IW X s H scope ce fp E) (fun c d _ H'=>E c d H'):=fun pins σ H1 s1 e s' I h=>⟨pins,σ,H1,s1,Inv.unwish (X:=X.blk s H scope ce fp) (E:=(IW X s H scope ce fp E).xe) I,h⟩
theorem Bq {B B' h:Heap} (k:∀ b,B.get? b=none→B'.get? b=none):∀ {l:List Env},h.FunFrames B l→h.FunFrames B' l
 | [],_=>trivial
 | _::_,⟨a,⟨L,o,b,c,d⟩,r⟩=>⟨a,⟨L,o,b,k _ c,d⟩,Bq k r⟩
theorem YW {W:WX} {E:XK} {pins pn:List (Addr × Obj)} {σ σ8:L2.St} {H3 H8:Hp} {s3 s8 s':Shared} {scope:Scope} {ce:Env} {fp:List Addr} {e:Value} (hs:X.stack=X.env::X.outer) (hf:X.env.frame=some X.env.locals) (tk:Takes X W) (hW:∀ c d H',E c d H'→W c d σ H')
  (cL:ce.locals=s3.heap.objs.size) (cf:ce.frame=X.env.frame) (I3:Inv X pins σ H3 s3) (f3:∀ b∈fp,FpOk X pins H3 b∧b<s3.heap.objs.size) (Ib:Inv (X.blk s3 H3 scope ce fp) pn σ8 H8 s8) (c:L2.CX X.prog X.w X.stack H8 s8 E e s') :
  notedBy (model X.prog X.w) X.A ce (CompFails (model X.prog X.w) X.A X.xe ce) e s':=by
 have IX:Inv X pins σ H8 s8:=I3.call' (ch:=fp) Ib.os Ib.base Ib.hok Ib.bare fun b hb=>⟨(f3 b hb).1.2.2.2.1,(f3 b hb).1.2.1,(f3 b hb).1.2.2.2.2.1,(f3 b hb).1.2.2.2.2.2⟩
 have nC8:H8 ce.locals=none:=Ib.free
 obtain ⟨mC,hnC,_⟩:=Ib.loc
 have hnC:s8.heap.Ns ce.locals mC:=hnC
 obtain ⟨oC,esC,epC,hoC,hdC,hrC⟩:=id hnC
 have fpC:FpOk X pins H3 ce.locals:=I3.fpOk (by rw [cL];exact Nat.le_refl _) (by rw [cL];exact I3.hok.fresh (Nat.le_refl _))
 have nFr:ce.locals∉frs X.stack:=fun z=>(List.mem_cons.mp (IX.stkSub _ z)).elim fpC.2.1 fpC.2.2.1
 have c0:=c
 obtain ⟨a,B,H',cls,d,rfl,fl,hok,ub,na,os,ag,hE⟩:=c0
 have hBC:B.get? ce.locals=some oC:=ub.keep _ _ hoC nC8 nFr
 have nC':H' ce.locals=none:=ub.free _ _ hoC nC8
 have nsS:s'.heap.Ns ce.locals mC:=⟨oC,esC,epC,fl.1 _ _ hBC,hdC,hrC⟩
 -- the ground without the block's names
 obtain ⟨B',b1,b2⟩:=restrict B fun b=>decide (b≠ce.locals)
 have ahy:∀ b o,B'.get? b=some o→B.get? b=some o∧b≠ce.locals:=fun b o z=>by
  by_cases hb:b=ce.locals
  ·rw [b2 b (by simp [hb])] at z;cases z
  ·rw [b1 b (by simp [hb])] at z;exact ⟨z,hb⟩
 have abS:∀ b,B.get? b=none→B'.get? b=none:=fun b z=>by
  cases y:B'.get? b with
  | none=>rfl
  | some o=>rw [(ahy b o y).1] at z;cases z
 have aoK:B'.get? ce.locals=none:=b2 _ (by simp)
 have agH:∀ {h:Heap} {fv:Value},HandSPX.TracedZ h B a (Zc cls d) fv→HandSPX.TracedZ h B' a (Zc cls d) fv:=fun ⟨oe,vs,T,oT,ts,x1,x2,x3,x4,x5,x6⟩=>⟨oe,vs,T,oT,ts,x1,x2,x3,x4,abS _ x5,x6⟩
 have fl':HandSPX.FlyingZ B' X.stack a (Zc cls d) s'.heap:=⟨fun b o z=>fl.1 b o (ahy b o z).1,abS _ fl.2.1,Bq abS fl.2.2.1,agH fl.2.2.2⟩
 have st:B.StaysIn s'.heap:=fl.1
 -- the state without the error and without the block's names
 obtain ⟨G0,g1,g2⟩:=restrict s'.heap fun b=>(B.get? b).isSome || decide (b∈frs X.stack)
 obtain ⟨G1,q1,q2⟩:=restrict G0 fun b=>decide (b≠ce.locals)
 have gB:∀ b o,B.get? b=some o→G0.get? b=some o:=fun b o z=>by rw [g1 b (by simp [z])];exact st b o z
 have gF:∀ b,b∈frs X.stack→G0.get? b=s'.heap.get? b:=fun b hb=>g1 b (by simp [hb])
 have og0:∀ b o,G0.get? b=some o→s'.heap.get? b=some o∧((B.get? b).isSome=true∨b∈frs X.stack):=fun b o z=>by
  cases y:((B.get? b).isSome || decide (b∈frs X.stack)) with
  | false=>rw [g2 b y] at z;cases z
  | true=>
   rw [g1 b y] at z
   refine ⟨z,?_⟩
   simpa only [Bool.or_eq_true,decide_eq_true_eq] using y
 have og1:∀ b o,G1.get? b=some o→G0.get? b=some o∧b≠ce.locals:=fun b o z=>by
  by_cases hb:b=ce.locals
  ·rw [q2 b (by simp [hb])] at z;cases z
  ·rw [q1 b (by simp [hb])] at z;exact ⟨z,hb⟩
 have J0:Inv X pins σ H' { s8 with heap:=G0,gens:=s'.gens,drawn:=s'.drawn,toks:=s'.toks }:=by
  refine IX.call (ch:=[]) ⟨fun b o z n hb _=>gB b o (ub.keep b o z n hb),fun b o z n hb _=> ?_,fun b o z n _=>ub.free b o z n,fun b o z _=> ?_,ub.tups,ub.frzs,ub.tbls⟩ (hok.kept gB) ag (fun _ z=>nomatch z)
  ·obtain ⟨sl,y⟩:=ub.slot b o z hb
   exact ⟨sl,by rw [gF b hb];exact y⟩
  ·by_cases hb:b∈frs X.stack
   ·obtain ⟨sl,y⟩:=ub.slot b o z hb
    exact ⟨_,by rw [gF b hb];exact y⟩
   ·obtain ⟨o',y⟩:=ub.there b o z hb
    exact ⟨o',gB b o' y⟩
 have J1:Inv X pins σ H' { s8 with heap:=G1,gens:=s'.gens,drawn:=s'.drawn,toks:=s'.toks }:=J0.turned (t':=s'.toks) (fun b o hb z=>by rw [q1 b (by simp [hb])];exact z) nC' fpC.2.1 fpC.2.2.2.1 fpC.2.2.2.2.1 fpC.2.2.2.2.2
 have hfr:X.A.frames=some (X.env::X.outer):=by rw [IX.ok.frames,hs]
 show wpAny (model X.prog X.w) X.A (noteFrame (.ref a) ce) _ _ s'
 rw [noteFrame_env _ cf]
 refine HandSPX.looks_onZ Zc.steady hfr hf (by rw [hs] at fl';exact fl') fun h1 held1 up1=> ?_
 obtain ⟨k1,k2,k3,oe,vs,T,oT,ts,he,hz,hd,hv1,hnT,hTe,hT,hdT,hv3⟩:=id held1
 have ns1:h1.Ns ce.locals mC:=nsS.upToSlots up1
 obtain ⟨o1,es1,ep1,ho1,hd1,_⟩:=id ns1
 have aC:a≠ce.locals:=fun z=>by
  rw [z,ho1] at he;cases he
  rw [hd1] at hd;cases hd
 have TC:T≠ce.locals:=fun z=>by
  rw [z,ho1] at hT;cases hT
  rw [hd1] at hdT;cases hdT
 refine ⟨mC,ns1,fun h2 m2 hn2 sb=> ?_⟩
 have he2:h2.get? a=some oe:=(sb.2 a aC).trans he
 have tr2:HandSPX.TracedZ h2 B' a (Zc cls d) (rawInt X.env.locals):=⟨oe,vs,T,oT,ts,he2,hz,hd,hv1,hnT,hTe,(sb.2 T TC).trans hT,hdT,hv3⟩
 unfold PySem.passOn
 refine wpAny_bind (wpAny_field (s:={ s' with heap:=h2 }) he2 hd hv1 ?_)
 rw [if_neg (show ¬ ((Value.ref T==Value.none)=true) from by simp)]
 rw [show ce.frame=some X.env.locals from cf.trans hf]
 have fin:wpAny (model X.prog X.w) X.A (setFlight (.ref a) (some X.env.locals)) (fun _ s4=>wpAny (model X.prog X.w) X.A (throw (.ref a):Sem Value) (fun _ _=>False) X.xe s4) X.xe { s' with heap:=h2 }:=by
  refine HandSPX.setFlight_anyZ (s:={ s' with heap:=h2 }) (base:=B') (l:=X.stack) (fun b o z=>(sb.2 b (ahy b o z).2).trans (k1 b o z)) (by rw [hs];exact Heap.FunFrames.sameBut sb hn2 k3) tr2 fun h3 w1 w2 w3 up3=>wpAny_throw (tk _ _ ?_)
  refine ⟨a,B',_,pins,σ,H',cls,d,rfl,J1,fun b o z hb=> ?_,fun b o z nf=> ?_,.inr (.inr ⟨w1,k2,w2,w3⟩),na,os,ag,hW _ _ _ hE⟩
  ·obtain ⟨z1,nz⟩:=og1 b o z
   rcases (og0 b o z1).2 with y | y
   ·obtain ⟨o',y'⟩:=Option.isSome_iff_exists.mp y
    have:=st b o' y'
    rw [(og0 b o z1).1] at this;cases this
    rw [b1 b (by simp [nz])];exact y'
   ·exact absurd y hb
  ·obtain ⟨z1,nz⟩:=og1 b o z
   obtain ⟨sl1,y1⟩:=up1 b o (og0 b o z1).1 nf
   have y2:h2.get? b=some { o with slots:=sl1 }:=(sb.2 b nz).trans y1
   obtain ⟨sl2,y3⟩:=up3 b _ y2 nf
   exact ⟨sl2,y3⟩
 first
  | exact wpAny_bind (wpAny_pure (wpAny_bind fin))
  | exact wpAny_bind fin
end
section
variable {X:Cx}
theorem agj {W:WX} {iJ tg iter:Expr} {jZ:List Expr} {scope:Scope} {own:List (Str × Nat)} {pos:Pos} {wi:TI} {g:TG} {tt:TT} {teE:XK→TE} (Ru:X.stack=X.env::X.outer) (hfm:X.env.frame=some X.env.locals) (tk:Takes X W) (hc:X.calm=true) (hN:X.N.Nodup) (hi:PI X tg iter wi) (ok:BlkOk X.N X.env.scope scope own)
  (hg:∀ (s:Shared) (H:Hp) (C:Addr) (cl:List (Str × Addr)) (fp:List Addr),PG (X.blk s H scope (compEnvC scope cl C X.env) fp) tg g) (ht:∀ (s:Shared) (H:Hp) (C:Addr) (cl:List (Str × Addr)) (fp:List Addr),PTs (X.blk s H scope (compEnvC scope cl C X.env) fp) jZ tt)
  (he:∀ (E:XK) (s:Shared) (H:Hp) (C:Addr) (cl:List (Str × Addr)) (fp:List Addr),PE (IW X s H scope (compEnvC scope cl C X.env) fp E) iJ (teE E)) (hs:∀ x,foldedSetIterable iter X.env x=pure x:=by intro _;rfl) :
  PE X (.ListComp iJ [⟨tg,iter,jZ,0⟩] scope pos) (fun σ H Q=>tLc wi g tt (teE fun c d H'=>W c d σ H') (own.map (·.2)) σ H Q):=by
 refine ⟨fun pins s σ H Q I h=> ?_⟩
 rw [eval_ListComp]
 have aiG:∀ y∈scope.names,y.2=.free→∃ c,X.env.cells.lookup y.1=some c:=fun y hy e=>by
  rcases ok.free y hy e with k | k
  ·exact I.ok.has _ (.inl k)
  ·exact I.ok.has _ (.inr k)
 refine comprehension_at (use:=none) rfl hs (closure_ok aiG) ok.kind (fun y hy e=>by rw [ok.uniq y hy,e])
  (thn (hi.run pins s σ H _ I h) fun xv s1 hx=>thn hx fun itv s2 h2=> ?_)
 obtain ⟨it,fp,tn,J,H2,e,I2,T,st2,f2,q⟩:=h2
 subst e
 refine wpAny_newObj_type (newEnv_comp ?_) (by show 0≤sizeLine;decide)
 generalize hD:s2.heap.objs.size=D
 have hDn:H2 D=none:=I2.hok.fresh (Nat.le_of_eq hD)
 obtain ⟨Wm,⟨m0,w0⟩,turn⟩:=q D hDn
 -- the new list
 generalize hs3:({ s2 with heap:=s2.heap.push { cls:=.type "list",data:=.seq ([]:List Value).toArray } }:Shared)=s3
 have I3:Inv X pins σ (upd H2 D (.lst [])) s3:=by
  rw [← hs3]
  refine I2.laid (t':=s2.toks) (fun b o e=>Heap.get?_push_of_some _ e) (Nat.le_of_eq hD) ⟨Nat.zero_le _,[],0,.nil,?_⟩
  rw [← hD]
  exact Heap.get?_push_size _ rfl
 have h3:s3.heap=s2.heap.push { cls:=.type "list",data:=.seq ([]:List Value).toArray }:=by rw [← hs3]
 have sz:∀ b∈fp,b<s2.heap.objs.size:=fun b hb=>by
  obtain ⟨o,e,_⟩:=T.obj _ _ st2 b hb
  exact Heap.lt_size e
 have f3:∀ b∈fp,FpOk X pins (upd H2 D (.lst [])) b∧b<s3.heap.objs.size:=fun b hb=>by
  have Zg:=sz b hb
  refine ⟨⟨?_,(f2 b hb).2⟩,by rw [h3,Heap.size_push];exact Nat.lt_succ_of_lt Zg⟩
  rw [upd_ne (by rw [← hD];exact Nat.ne_of_lt Zg)]
  exact (f2 b hb).1
 have lN:tn 0 s3.heap:=T.keep _ _ _ st2 fun b _ o e=>by rw [h3];exact Heap.get?_push_of_some _ e
 have I4:=block_start I3 ok hN f3
 have pg:=hg s3 (upd H2 D (.lst [])) s3.heap.objs.size (cellsFrom (s3.heap.objs.size+1) scope.names (cloFrom X.env.cells scope.names [])) fp
 have pt:=ht s3 (upd H2 D (.lst [])) s3.heap.objs.size (cellsFrom (s3.heap.objs.size+1) scope.names (cloFrom X.env.cells scope.names [])) fp
 have pe:=he (fun c d H'=>W c d σ H') s3 (upd H2 D (.lst [])) s3.heap.objs.size (cellsFrom (s3.heap.objs.size+1) scope.names (cloFrom X.env.cells scope.names [])) fp
 show codeAny _ _ (.compStart (.ListComp iJ [⟨tg,iter,jZ,0⟩] scope pos) 0 (.ref it) (.ref D) (compEnvC scope (cellsFrom (s3.heap.objs.size+1) scope.names (cloFrom X.env.cells scope.names [])) s3.heap.objs.size X.env)) (compEnds (model X.prog X.w) X.A X.xe none (EP X pins σ Q) (.ref D) (compEnvC scope (cellsFrom (s3.heap.objs.size+1) scope.names (cloFrom X.env.cells scope.names [])) s3.heap.objs.size X.env)) { s3 with heap:=pushCells (s3.heap.push { cls:=.type "dict",data:=.dict #[] }) scope.names }
 have nfp:∀ b∈fp,(upd H2 D (.lst [])) b=none:=fun b hb=>(f3 b hb).1.1
 generalize hce:compEnvC scope (cellsFrom (s3.heap.objs.size+1) scope.names (cloFrom X.env.cells scope.names [])) s3.heap.objs.size X.env=ce at I4 pg pt pe ⊢
 have cL:ce.locals=s3.heap.objs.size:=by subst hce;rfl
 have cF:ce.frame=X.env.frame:=by subst hce;rfl
 generalize hH3:upd H2 D (.lst [])=H3 at I3 I4 pg pt pe w0 nfp f3
 generalize hs4:({ s3 with heap:=pushCells (s3.heap.push { cls:=.type "dict",data:=.dict #[] }) scope.names }:Shared)=s4 at I4 ⊢
 have st4:tn 0 s4.heap:=T.keep _ _ _ lN fun b _ o e=>by rw [← hs4];exact pushCells_keeps _ _ _ _ (Heap.get?_push_of_some _ e)
 have agJ:∀ {σ':L2.St} {H':Hp} {s':Shared},Inv (X.blk s3 H3 scope ce fp) [] σ' H' s'→(∀ b∈fp,H' b=none)→∀ b∈fp,FpOk (X.blk s3 H3 scope ce fp) [] H' b:=fun {σ' H' s'} I' hn b hb=>
  ⟨hn b hb,(I'.ok.exf b hb).1,I'.ok.exfs b hb,.inl hb,fun x c e=>(I'.ok.exf b hb).2 x c e,fun p hp=>absurd (show p∈([]:List (Addr × Obj))++[] from hp) (by simp)⟩
 have loop:codeAny (model X.prog X.w) X.A (.compLoop (.ListComp iJ [⟨tg,iter,jZ,0⟩] scope pos) 0 (.ref it) (.ref D) ce) (compEnds (model X.prog X.w) X.A X.xe none (EP X pins σ Q) (.ref D) ce) s4:=by
  refine compLoop_any (fun n s'=>∃ i H',Inv (X.blk s3 H3 scope ce fp) [] (wipe σ (own.map (·.2))) H' s'∧tn i s'.heap∧(∀ b∈fp,H' b=none)∧Wm i n H') ?_ m0 ⟨0,H3,I4,st4,nfp,w0⟩
  rintro n s5 ⟨i,H5,I5,st5,n5,w5⟩
  rcases turn i n H5 w5 with ⟨stop,qq⟩ | ⟨go,Nx,hNx,step⟩
  ·have td:=T.done (X.blk s3 H3 scope ce fp) rfl rfl rfl hc i [] s5 _ H5 (fun _ _=>False) I5 (agJ I5 n5) st5 stop
   refine thnF td fun r s6 ⟨hr,I6⟩=> ?_
   subst hr
   -- back in the def's context
   have I7:Inv X pins σ H5 s6:=I3.call' (ch:=fp) I6.os I6.base I6.hok I6.bare fun b hb=>⟨(f3 b hb).1.2.2.2.1,(f3 b hb).1.2.1,(f3 b hb).1.2.2.2.2.1,(f3 b hb).1.2.2.2.2.2⟩
   have nC:H5 s3.heap.objs.size=none:=by
    have z:H5 ce.locals=none:=I6.free
    rw [cL] at z
    exact z
   obtain ⟨m,hn,_⟩:=I6.loc
   have hn:s6.heap.Ns ce.locals m:=hn
   rw [cL] at hn
   obtain ⟨f0,f1,f2,f3,f4,f5⟩:=I3.fpOk (Nat.le_refl _) nC
   refine ⟨m,by rw [cL];exact hn,fun h'' sb=> ?_⟩
   rw [cL] at sb
   exact ⟨.ref D,H5,I7.turned (t':=s6.toks) (fun b o hb e=>(sb.2 b hb).trans e) f0 f1 f3 f4 f5,rfl,qq⟩
  ·have ti:=T.item (X.blk s3 H3 scope ce fp) rfl rfl rfl hc i [] s5 _ H5 (fun _ _=>False) I5 (agJ I5 n5) st5 go
   refine thnF ti fun r s6 ⟨u,hr,h6⟩=> ?_
   subst hr
   refine thnF h6 fun _ s7 ⟨x,H7,I7,r7,y7,st7,n7⟩=> ?_
   have I7':=I7.pinned (agJ I7 n7) (T.obj _ _ st7)
   refine thnF (pg.run _ s7 _ H7 x u _ I7' r7 (step x H7 y7)) fun _ s8 ⟨σ8,H8,I8,hw8,q8⟩=> ?_
   refine thnF (pt.run _ s8 σ8 H8 _ I8 q8) fun b s9 ⟨H9,I9,q9⟩=> ?_
   -- the turn's end
   have fin:∀ {s':Shared} {H':Hp},Inv (X.blk s3 H3 scope ce fp) ([]++pinsAt fp s7.heap) σ8 H' s'→Nx H'→∃ m,m<n∧∃ i H',Inv (X.blk s3 H3 scope ce fp) [] (wipe σ (own.map (·.2))) H' s'∧tn i s'.heap∧(∀ b∈fp,H' b=none)∧Wm i m H':=fun {s' H'} I' nx=>by
    obtain ⟨m',hm,w'⟩:=hNx H' nx
    have aj4:∀ b∈fp,∀ o,s7.heap.get? b=some o→s'.heap.get? b=some o∧H' b=none:=fun b hb o e=>
     let z:=I'.pin (b,o) (List.mem_append_right _ (List.mem_append_right _ (mem_pinsAt hb e)))
     ⟨z.1,z.2.1⟩
    have hl:(wipe σ (own.map (·.2))).length=σ8.length:=by rw [← hw8,wipe_length]
    refine ⟨m',hm,i+1,H',(I'.unpinned (pins:=[])).weak hl (fun j v e=> ?_),T.keep _ _ _ st7 fun b hb o e=>(aj4 b hb o e).1,fun b hb=> ?_,w'⟩
    ·rw [← hw8] at e
     exact (wipe_some e).1
    ·obtain ⟨o,e,_⟩:=T.obj _ _ st7 b hb
     exact (aj4 b hb o e).2
   cases b with
   | false=>
    simp only [Bool.false_eq_true,if_false] at q9 ⊢
    exact fin I9 q9
   | true=>
    simp only [if_true] at q9 ⊢
    refine wpAny_mono (pe.run _ s9 σ8 H9 _ (I9.wish _) q9) (fun z s10 ⟨yv,H10,I10,r10,aQ,hD10,hz10,nx⟩=> ?_) fun er s10 ⟨pn,σx,Hx,sx,Ix,cx⟩=>YW Ru hfm tk (fun _ _ _ y=>y) cL cF I3 f3 Ix cx
    have I10:=Inv.unwish (X:=X.blk s3 H3 scope ce fp) (E:=(IW X s3 H3 scope ce fp fun c d H'=>W c d σ H').xe) I10
    exact app_ok (X:=X.blk s3 H3 scope ce fp) I10 hD10 hz10 r10 fun s11 I11=>fin I11 nx
 exact codeAny_compStart_list loop (T.self X.A 0 _ _ _ st4 loop)
end
section
variable {G:bB} {M:aF} {W:WX} {X:Cx} {k:Nat}
theorem agt {own:List Nat} {ce:E} {t:Tg} {qP:Src} (ht:∀ i∈t.slots,i∈own) (σ:L2.St) (H:Hp) (Q:VK) (h:tF G M W (.WL own ce t qP) σ H Q):tLc (tS G M W qP) (tG G t) (xW G M WF .nil) (tE G M (fun c d _ H'=>W c d σ H') ce) own σ H Q:=by
 obtain ⟨ρ,η,S,s,r,h⟩:=h
 refine ⟨ρ,η,S,s,r,?_⟩
 simp only [d9] at h
 refine (PR.bind h).mono fun ρ1 H1 p S1 st s1 h1 J jw D hD=> ?_
 obtain ⟨lk,xs⟩:=p
 simp only at h1 jw
 have hD0:H D=none:=none_of s s1 st hD
 have hDn:D∉ρ1:=s1.free hD
 have Bp:=s1.len
 -- the start
 have sm:Same H1 (upd H1 D (.lst [])):=fK hD
 have stD:Step ρ1 H1 (ρ1++[D]) (upd H1 D (.lst [])):=(bu sm).one hD
 have U5:bf G (ρ1++[D]) (upd H1 D (.lst [])) (S1++[.lst []]):=s1.new hD ⟨[],upd_same,au.nil⟩
 have rD:(ρ1++[D])[S1.length]? =some D:=by rw [← Bp];simp
 generalize Ep:(fun (x:Vl) (S2:Hs)=>match aZ t x (bR η own) with
   | none=>(Res.bad:Res (Option Vl))
   | some η1=>(ev M ce η1 S2).bind fun y S4=>.ok (some y) S4)=step at h1
 refine ⟨fun i m H'=>m=xs.length - i∧i≤xs.length∧∃ aQ,Step ρ1 H1 (ρ1++[D]) H'∧bf G (ρ1++[D]) H' (S1++[.lst aQ])∧PR G W σ ρ1 H1 ((m7 step lk (xs.drop i) aQ S1).bind fun ys S2=>.ok (.lst ys) S2) (Ci G H Q)∧aV S1.length aQ=true,⟨xs.length,by simp,Nat.zero_le _,[],stD,U5,by simpa using h1,by simp [aV]⟩,?_⟩
 rintro i m H' ⟨rfl,hi,aQ,gG,s',h',la⟩
 by_cases hl:i<xs.length
 ·refine .inr ?_
  rw [List.drop_eq_getElem_cons hl] at h'
  simp only [m7] at h'
  split at h'
  ·rename_i l'
   have l2:cP lk (S1++[.lst aQ]):=fun p hp=>by
    have e:=l' p hp
    rw [List.getElem?_append_left (aJ e)];exact e
   obtain ⟨hgo,hy⟩:=jw.go _ H' _ i xs[i] (Step.x gG) s' l2 (by simp [hl])
   refine ⟨hgo,fun H3=>∃ aQ,Step ρ1 H1 (ρ1++[D]) H3∧bf G (ρ1++[D]) H3 (S1++[.lst aQ])∧PR G W σ ρ1 H1 ((m7 step lk (xs.drop (i+1)) aQ S1).bind fun ys S2=>.ok (.lst ys) S2) (Ci G H Q)∧aV S1.length aQ=true,fun H3 a=>⟨xs.length - (i+1),by omega,rfl,by omega,a⟩,fun v H3 y=> ?_⟩
   obtain ⟨sm3,hv⟩:=hy v H3 y
   have lN:Step (ρ1++[D]) H' (ρ1++[D]) H3:=bu sm3
   have s3:=s'.same sm3
   have est:step xs[i] (S1++[.lst aQ])=match aZ t xs[i] (bR η own) with
     | none=>(Res.bad:Res (Option Vl))
     | some η1=>(ev M ce η1 (S1++[.lst aQ])).bind fun y S4=>.ok (some y) S4:=by rw [← Ep]
   cases eb:aZ t xs[i] (bR η own) with
   | none=>rw [est,eb] at h';exact h'.elim
   | some η2=>
    rw [est,eb] at h'
    simp only at h'
    have er3:ER G (ρ1++[D]) H3 (bR η own) (wipe σ own):=(((r.step st).step gG).step lN).wipe own
    refine ⟨ρ1++[D],S1++[.lst aQ],bR η own,xs[i],η2,s3,er3,hv,eb,fun σ4 of4 r4=>⟨yG of4 ht,ρ1++[D],η2,S1++[.lst aQ],s3,r4,?_⟩⟩
    simp only [dB]
    refine fun ρ5 H5 st5 s5=> ?_
    simp only [if_true]
    refine ⟨ρ5,η2,S1++[.lst aQ],s5,r4.step st5,?_⟩
    cases ev6:ev M ce η2 (S1++[.lst aQ]) with
      | bad=>rw [ev6] at h';exact h'.elim
      | exc x S4=>
       rw [ev6] at h'
       simp only [Res.bind] at h'
       by_cases c7:S4=S1++[.lst aQ]∧x.lim S1.length=true
       ·rw [if_pos c7] at h'
        obtain ⟨rfl,lx⟩:=c7
        refine fun ρ7 H7 st7 s7=> ?_
        have e7:ρ7=ρ1++[D]:=o9 (st5.trans st7).pre (by rw [s7.len,← s3.len])
        subst e7
        have st9:=((gG.trans lN).trans st5).trans st7
        have q:XW G W σ ρ1 H7 x:=h' ρ1 H7 ⟨List.prefix_refl _,st9.keep,fun a ha=>.inl ha,st9.fz⟩ (s7.cut Bp s1.Yv)
        unfold XW at q ⊢
        unfold Xc.lim at lx
        cases ex:x.fs with
        | none=>rw [ex] at q;exact q
        | some p=>
         obtain ⟨ns,vs⟩:=p
         rw [ex] at q lx
         exact fun d fs a1 a2 a3 a4=>q d fs a1 (fun z=>a2 (List.mem_append_left _ z)) a3 (au.less _ _ a4 (by rw [Bp];exact lx))
       ·rw [if_neg c7] at h';exact h'.elim
      | ok y S4=>
       rw [ev6] at h'
       simp only [Res.bind] at h'
       refine fun ρ7 H7 st7 s7 w hw=> ?_
       by_cases c7:S4=S1++[.lst aQ]∧aQ.length<sizeLine
       ·rw [if_pos c7] at h'
        obtain ⟨rfl,hz⟩:=c7
        have e7:ρ7=ρ1++[D]:=o9 (st5.trans st7).pre (by rw [s7.len,← s3.len])
        subst e7
        by_cases ly:y.lim S1.length=true
        ·rw [if_pos ly] at h'
         obtain ⟨vs,g1,g2⟩:=s7.at_ S1.length (.lst aQ) D (by simp) rD
         have nf:∀ od u,H7 D≠some (.frz od u):=fun od u z=>by rw [g1] at z;cases z
         have stE:Step (ρ1++[D]) H7 (ρ1++[D]) (upd H7 D (.lst (vs++[w]))):=⟨List.prefix_refl _,fun b o hb hn=>by
          rw [upd_ne fun e=>hn (by subst e;simp)];exact hb,fun b hb=>.inl hb,o8 nf⟩
         obtain ⟨st8,s8⟩:=bf.put (ho:=.lst (vs++[w])) (o2:=.lst (aQ++[y])) s7 rD nf ⟨vs++[w],upd_same,au.step stE _ _ (g2.append (au.cons hw au.nil))⟩
         refine ⟨vs,g1,by rw [← g2.length];exact hz,aQ++[y],(((gG.trans lN).trans st5).trans st7).trans st8,by simpa using s8,h',?_⟩
         exact nD la ly
        ·rw [if_neg ly] at h';exact h'.elim
       ·rw [if_neg c7] at h';exact h'.elim
  ·exact h'.elim
 ·have e:i=xs.length:=by omega
  subst e
  rw [List.drop_length] at h'
  simp only [m7] at h'
  split at h'
  ·rename_i l'
   have l2:cP lk (S1++[.lst aQ]):=fun p hp=>by
    have e:=l' p hp
    rw [List.getElem?_append_left (aJ e)];exact e
   refine .inl ⟨jw.stop _ H' _ (Step.x gG) s' l2,?_⟩
   have sc:bf G ρ1 H' S1:=s'.cut Bp s1.Yv
   have Uo:Step ρ1 H1 ρ1 H':=⟨List.prefix_refl _,gG.keep,fun a ha=>.inl ha,gG.fz⟩
   have fin:Ci G H Q ρ1 H' (.lst aQ) S1:=h' ρ1 H' Uo sc
   exact fin D hD0 hDn (OR.less (s'.at_ S1.length (.lst aQ) D (by simp) rD) (by rw [Bp];exact la)) s'
  ·exact h'.elim
section
variable {iJ tg iter:Expr} {scope:Scope} {own:List (Str × Nat)} {pos:Pos} {ce:E} {t:Tg} {qP:Src}
theorem aa2 [bT G X] [ow:Own X] (g:Good G k X) (tk:Takes X W) (yg:∀ i∈t.slots,i∈own.map (·.2)) (hi:PI X tg iter (tS G M W qP)) (ok:BlkOk X.N X.env.scope scope own)
  (hg:∀ (s:Shared) (H:Hp) (C:Addr) (cl:List (Str × Addr)) (fp:List Addr),PG (X.blk s H scope (compEnvC scope cl C X.env) fp) tg (tG G t))
  (he:∀ (E:XK) (s:Shared) (H:Hp) (C:Addr) (cl:List (Str × Addr)) (fp:List Addr),G4 (IW X s H scope (compEnvC scope cl C X.env) fp E) (fun c d _ H'=>E c d H')→PE (IW X s H scope (compEnvC scope cl C X.env) fp E) iJ (tE G M (fun c d _ H'=>E c d H') ce)) (hs:∀ x,foldedSetIterable iter X.env x=pure x:=by intro _;rfl) :
  PE X (.ListComp iJ [⟨tg,iter,[],0⟩] scope pos) (tF G M W (.WL (own.map (·.2)) ce t qP)):=(agj (teE:=fun E=>tE G M (fun c d _ H'=>E c d H') ce) ow.stk ow.frm tk g.calm g.nd hi ok hg (fun _ _ _ _ _=>gD) (fun E s H C cl fp=>he E s H C cl fp Zb) hs).imp fun σ H Q h=>agt yg σ H Q h
theorem Good.IW [bT G X] (g:Good G k X) (s:Shared) (H:Hp) (scope:Scope) (ce:Env) (fp:List Addr) (E:XK):Good G k (IW X s H scope ce fp E):=⟨g.K,g.nd,g.room,g.N7,fun e h=>by rw [bT.er X] at h;cases h⟩
instance {s:Shared} {H:Hp} {scope:Scope} {ce:Env} {fp:List Addr} {E:XK} [c:bT G X]:bT G (IW X s H scope ce fp E):=⟨c.calm,c.hd,c.er⟩
end
end
end Oz
namespace Oz
open PySem PySem.Spec L2 PyProof PyProof.Rows
def yS {α:Type}:List (Str × α)→Str→Option α
 | [],_=>none
 | p::l,d=>if d=p.1 then some p.2 else yS l d
def subT (AS:List Str) (T:List (Str × List Str)) (d c:Str):Option Bool:=if c∈AS then (yS T d).map fun l=>decide (c∈l) else none
def ak6 (T:List (Str × Addr)) (d:Str):Addr:=(yS T d).getD 0
def valT (T:List (Str × Value)) (d:Str):Value:=(yS T d).getD .none
def KA1 (K:PySem.W.Frag) (C:Addr) (v:Value) (b:Bool):Prop:=match v with
 | .ref a=>((C=a∧b=true)∨(C==a)=false)∧PySem.W.subIn K (.ref C) (.ref a)=some b
 | .type T=>PySem.W.kitMeta T=true∧PySem.W.subIn K (.ref C) (.type T)=some b
 | _=>False
def KA (K:PySem.W.Frag) (C:Addr) (xc:Str→Value) (l:List Str):List Str→Prop
 | []=>True
 | a::as=>KA1 K C (xc a) (decide (a∈l))∧KA K C xc l as
def AF1 (K:PySem.W.Frag) (v:Value):Prop:=match v with
 | .ref a=>PySem.W.isClsIn K a=true∧PySem.W.typeIn K (.ref a)=some (.type "type")
 | _=>True
def AF (K:PySem.W.Frag) (xc:Str→Value):List Str→Prop
 | []=>True
 | a::as=>AF1 K (xc a)∧AF K xc as
structure EK (K:PySem.W.Frag) (C:Addr):Prop where
 b:PySem.W.subIn K (.ref C) (.type "BaseException")=some true
 d:PySem.W.hasDictIn K C=true
 g:PySem.W.findIn K (.ref C) "__getattribute__"=some (some (.builtin "BaseException.__getattribute__"))
 k:PySem.W.findIn K (.ref C) "__getattr__"=some none
 a:PySem.W.findIn K (.ref C) "__class__"=some (some (.builtin "object.__class__"))
 m:PySem.W.mroIn K C (.type "object")=some true
 s:PySem.W.findIn K (.ref C) "__setattr__"=some (some (.builtin "object.__setattr__"))
 p:PySem.W.keepIn K (.ref C)=true
 t:PySem.W.typeIn K (.ref C)=some (.type "type")
section
variable {K:PySem.W.Frag} {C:Addr} {v:Value} {b:Bool} {xc:Str→Value} {xl:Str→Addr} {l AS:List Str} {T:List (Str × List Str)} {c:Str}
theorem alD (h:KA1 K C v b) (f:AF1 K v):PySem.W.kitOne K (.ref C) v=some b:=by
 unfold KA1 at h
 unfold AF1 at f
 split at h
 ·rename_i a
  obtain ⟨⟨rfl,rfl⟩ | n,s⟩:=h
  ·unfold PySem.W.kitOne
   rw [if_pos (beq_self_eq_true _)]
  ·obtain ⟨i,t⟩:=f
   unfold PySem.W.kitOne PySem.W.kitCls
   rw [if_neg (by intro z;have z2:=beq_iff_eq.mp z;cases z2;simp at n)]
   dsimp only
   rw [if_pos (by rw [t];unfold PySem.W.isClsIn at i;rw [i];rfl)];exact s
 ·rename_i T
  obtain ⟨m,s⟩:=h
  unfold PySem.W.kitOne PySem.W.kitCls
  rw [if_neg (by intro z;cases beq_iff_eq.mp z)]
  dsimp only
  rw [if_pos m];exact s
 ·exact h.elim
theorem KA.at:∀ {as:List Str},KA K C xc l as→c∈as→KA1 K C (xc c) (decide (c∈l))
 | a::as,h,m=>(List.mem_cons.mp m).elim (fun e=>by rw [e];exact h.1) fun m=>KA.at h.2 m
theorem AF.at:∀ {as:List Str},AF K xc as→c∈as→AF1 K (xc c)
 | a::as,h,m=>(List.mem_cons.mp m).elim (fun e=>by rw [e];exact h.1) fun m=>AF.at h.2 m
def Ro (K:PySem.W.Frag) (xl:Str→Addr) (xc:Str→Value) (AS:List Str):List (Str × List Str)→Prop
 | []=>True
 | p::r=>(EK K (xl p.1)∧KA K (xl p.1) xc p.2 AS)∧Ro K xl xc AS r
theorem Ro.at:∀ {T:List (Str × List Str)},Ro K xl xc AS T→∀ {d:Str} {l:List Str},yS T d=some l→EK K (xl d)∧KA K (xl d) xc l AS
 | p::r,h,d,l,e=>by
  unfold yS at e
  split at e
  ·rename_i q
   cases e
   rw [q];exact h.1
  ·exact Ro.at h.2 e
theorem aac (h:Ro K xl xc AS T) {d:Str} {z:Bool} (e:subT AS T d c=some z):c∈AS∧EK K (xl d)∧KA1 K (xl d) (xc c) z:=by
 unfold subT at e
 split at e
 ·rename_i m
  obtain ⟨l,el,rfl⟩:=Option.map_eq_some_iff.mp e
  obtain ⟨a,k⟩:=h.at el
  exact ⟨m,a,k.at m⟩
 ·cases e
abbrev HX (G:bB) (M:aF) (c:Str) (v:Value):Prop:=∀ d z,M.sub d c=some z→ExcC G.K (G.xl d)∧PySem.W.kitOne G.K (.ref (G.xl d)) v=some z
abbrev HT (G:bB) (M:aF) (c:Str) (v:Value):Prop:=∀ d z,M.sub d c=some z→PySem.W.exmOne G.K (.ref (G.xl d)) v=some z
theorem ajj {M:aF} {G:bB} (hM:M.sub=subT AS T) (h:Ro G.K G.xl xc AS T) (f:AF G.K xc AS) (hn:PySem.W.specialIn G.K (.builtin "object.__class__") "__get__"=some (some (.builtin "getset_descriptor.__get__"))) (ht:PySem.W.takesIn G.K (.builtin "object.__class__")=some true) (c:Str):HX G M c (xc c):=fun d z e=>by
 rw [hM] at e
 obtain ⟨m,k,a⟩:=aac h e
 exact ⟨⟨k.g,k.k,k.b,k.d,k.a,hn,ht,k.m⟩,alD a (f.at m)⟩
theorem abh {M:aF} {G:bB} {a:Addr} (hM:M.sub=subT AS T) (h:Ro G.K G.xl xc AS T) (f:AF G.K xc AS) (c:Str) (hc:xc c=.ref a) (b:PySem.W.subIn G.K (.ref a) (.type "BaseException")=some true) (dd:PySem.W.hasDictIn G.K a=true):HT G M c (.ref a):=fun d z e=>by
 rw [hM] at e
 obtain ⟨m,k,q⟩:=aac h e
 have f1:=f.at m
 rw [hc] at q f1
 exact PySem.W.exm_ref b dd f1.2 q.2
def abA (K:PySem.W.Frag) (xl:Str→Addr):List (Str × Option Str)→Prop
 | []=>True
 | p::r=>(match p.2 with | some f=>PySem.W.findIn K (.ref (xl p.1)) f=some none | none=>True)∧abA K xl r
theorem abA.at:∀ {X:List (Str × Option Str)},abA K xl X→∀ {d f:Str},yS X d=some (some f)→PySem.W.findIn K (.ref (xl d)) f=some none
 | p::r,h,d,f,e=>by
  unfold yS at e
  split at e
  ·rename_i q
   have h1:=h.1
   rw [Option.some.inj e] at h1
   rw [q];exact h1
  ·exact abA.at h.2 e
abbrev HF (G:bB) (M:aF) (f:Str):Prop:=∀ d,M.xi d=some (some f)→XfC G.K (G.xl d)∧PySem.W.findIn G.K (.ref (G.xl d)) f=some none
structure EI (b:Bx) (K:PySem.W.Frag) (C:Addr) (nm ql f:Str) (st:Stmt):Prop where
 ex:∃ (n q:Str) (N:Addr) (bs bm:List Value) (sn:List Str) (sb:List Value) (ab:Bool) (cl:Option Bool) (dd:Option Addr) (k0 k1 k2 k3 k5:Option Value),K.lookup C=some (excClassObj n q C N bs bm true sn sb ab cl dd k0 k1 k2 k3 k5 b.new_)∧PySem.W.excTail b.tl bm=true
 fi:∃ (F:Addr) (oc kV dc pm cd ct:Value) (od an:Option Addr) (sl:Array (Option Value)),PySem.W.findIn K (.ref C) "__init__"=some (some (.ref F))∧K.lookup F=some ⟨oc,od,.func (PySem.W.fnOf nm ql (defArgs st) (defBody st) (defScope st) .none kV dc pm an cd ct),sl⟩∧PySem.W.codeIn K cd ql=true∧PySem.W.keepIn K (.ref F)=true∧PySem.W.typeIn K (.ref F)=some (.type "function")
 fd:PySem.W.findIn K (.ref C) f=some none
theorem ae7 {bx:Bx} {nm ql f:Str} {st:Stmt} {n q:Str} {N F:Addr} {bs bm:List Value} {sn:List Str} {sb:List Value} {ab:Bool} {cl:Option Bool} {dd:Option Addr} {k0 k1 k2 k3 k5:Option Value} {oc kV dc pm cd ct:Value} {od an:Option Addr} {sl:Array (Option Value)}
  (a:K.lookup C=some (excClassObj n q C N bs bm true sn sb ab cl dd k0 k1 k2 k3 k5 bx.new_)) (r:PySem.W.excTail bx.tl bm=true) (i:PySem.W.findIn K (.ref C) "__init__"=some (some (.ref F))) (l:K.lookup F=some ⟨oc,od,.func (PySem.W.fnOf nm ql (defArgs st) (defBody st) (defScope st) .none kV dc pm an cd ct),sl⟩)
  (c:PySem.W.codeIn K cd ql=true) (k:PySem.W.keepIn K (.ref F)=true) (t:PySem.W.typeIn K (.ref F)=some (.type "function")) (e:PySem.W.findIn K (.ref C) f=some none):EI bx K C nm ql f st:=⟨⟨_,_,_,_,_,_,_,_,_,_,_,_,_,_,_,a,r⟩,⟨_,_,_,_,_,_,_,_,_,_,i,l,c,k,t⟩,e⟩
theorem ajC (b:PySem.W.subIn K (.ref C) (.type "BaseException")=some true) (d:PySem.W.hasDictIn K C=true) (g:PySem.W.findIn K (.ref C) "__getattribute__"=some (some (.builtin "BaseException.__getattribute__"))) (k:PySem.W.findIn K (.ref C) "__getattr__"=some none) (a:PySem.W.findIn K (.ref C) "__class__"=some (some (.builtin "object.__class__")))
  (m:PySem.W.mroIn K C (.type "object")=some true) (s:PySem.W.findIn K (.ref C) "__setattr__"=some (some (.builtin "object.__setattr__"))) (p:PySem.W.keepIn K (.ref C)=true) (t:PySem.W.typeIn K (.ref C)=some (.type "type")):EK K C:=⟨b,d,g,k,a,m,s,p,t⟩
theorem afu {P:Program} {w:World} {mg:Str→Option Value} {base h:Heap} {x nm ql fld n0 n1:Str} {st:Stmt} {ps:List Str} {p1 p2 p3 p4:Pos} {bx:Bx} (bk:Od bx) (k:EK K C) (e:EI bx K C nm ql fld st) (X:K.In h) (GG:h.Ns mainGlobals mg) (hm:PySem.W.nsIn K mainGlobals x=some (some (.ref C)))
  (Sc:FnScope [n0,n1] ps (defScope st)) (hps:ps.length=2) (hb:defBody st=[.Assign [.Attribute (.Name n0 p1) fld p2] (.Name n1 p3) p4])
  (v0:Vis (defScope st) n0) (v1:Vis (defScope st) n1) (d0:(n0==("__debug__":Str))=false∧(n0==("__classdict__":Str))=false) (d1:(n1==("__debug__":Str))=false∧(n1==("__classdict__":Str))=false)
  (hs:∀ env:Env,swapsWith (.Name n1 p3) (some (.Attribute (.Name n0 p1) fld p2)) p4.line env=pure false)
  (hbi:∀ (kV xJ pm:Value) (an:Option Addr) (cI ct:Value) (us:List Value),us.length=ps.length→bindArgs (PySem.W.fnOf nm ql (defArgs st) (defBody st) (defScope st) .none kV xJ pm an cI ct) ⟨us,[]⟩=pure (ps.zip us)):aeb P w K mg base C x fld:=by
 obtain ⟨F,oc,kV,dc,pm,cd,ct,od,an,sl,i,l,c,kp,t⟩:=e.fi
 have FD:=yx (st:=st) l c kp (kws:=[]) (.inl rfl)
 have T:Yo bx K C:=⟨e.ex,k.s,k.b,k.t,k.p⟩
 exact ⟨bx,_,_,_,bk,ahE bk FD Sc hps hb T e.fd v0 v1 d0 d1 hs,T,i,t,aeK FD hbi,PySem.W.mg_of X GG hm⟩
end
end Oz
namespace Oz
open PySem PySem.Spec L2 PyProof.Rows LiI
section
variable {G:bB} {k n:Nat} {X:Cx} {M:aF} {W:WX} {a b c e:Expr} {ca cb cc:E} {cU:Es} {p pos cH oZ:Pos} {te:TE}
def adX:V→Hp→VK→Prop:=fun x H Q=>∃ (d:Addr) (kvs:List (Key × V)),x=.ref d∧Rd H d (.dK kvs)∧
 ∀ (H':Hp) (p:Addr) (ts:List Addr),(∀ b o,H b=some o→H' b=some o)→H p=none→(∀ t∈ts,H t=none)→p∉ts→H' p=some (.lst (ts.map V.ref))→Paired (fun (t:Addr) (q:Key × V)=>H' t=some (.tup [kV q.1,q.2])) ts kvs→Q (.ref p) H'
theorem Jd (hc:X.calm=true) (he:PE X e te) (hg:Gl X "list") (hm:X.mg "list"=none) (hv:bootBuiltins "list"=some (.type "list")) (fM:attributeBase e "items" X.env (eval e X.env)=eval e X.env:=by rfl) (fL:(cH.endLine==oZ.line)=true:=by rfl)
  (hs:starEach [.Call (.Attribute e "items" cH) [] [] oZ] X.env=(false,eval (.Call (.Attribute e "items" cH) [] [] oZ) X.env)::starEach [] X.env:=by rfl) :
  PE X (.Call (.Name "list" p) [.Call (.Attribute e "items" cH) [] [] oZ] [] pos) (fun σ H Q=>te σ H fun x H1=>adX x H1 Q):=by
 refine ⟨fun pins s σ H Q I hq=> ?_⟩
 refine wpAny_Call_Name_kw (ld_blt I hg hm hv ?_)
 refine PyProof.Rows.callWith_type1 ?_ hs rfl
 rw [hs]
 show wpAny _ _ (spliced ((false,eval (.Call (.Attribute e "items" cH) [] [] oZ) X.env)::backTo pos (starEach [] X.env))) _ _ s
 refine Calls.spliced_cons ?_
 refine wpAny_Call_method (T:="dict") (id:="dict.items") fM rfl fL F.plainAttrs_dict F.slot_dict_items F.type_dict_items (thn (he.run pins s σ H _ I hq) fun u s1 ⟨x,H1,I1,rx,d,kvs,ex,hd,q⟩=> ?_)
 subst ex
 obtain rfl:u=Value.ref d:=rx
 have hob:ObjOk X.prog X.w H1 s1.heap d (.dK kvs):=by
  rcases hd with hd | ⟨o,hd⟩
  ·exact I1.hok d _ hd
  ·exact (I1.hok d _ hd).2
 obtain ⟨hz,hs0,vs,kv,hdo⟩:=hob
 obtain ⟨ep,hat⟩:=hdo.dictAt
 have lk:kvs.length=vs.length:=Paired.length kv
 have I2:Inv X pins σ H1 { s1 with heap:=s1.heap.push { cls:=.type "dict_items",data:=.fields #[.ref d] } }:=I1.kept (t':=s1.toks) fun b ob q=>Heap.get?_push_of_some _ q
 refine ⟨hdo.typeIs,hdo.mapOf.noDict,?_⟩
 show wpAny _ _ (callWith oZ (.builtin "dict.items") [.ref d] [] []) _ X.xe s1
 refine method_meetsIn F.slot_dict_items F.entry_dict_items rfl (PySem.evalArgs_none ⟨rfl,hdo.typeIs,F.args_dict_items_1 _,_,meets_dict_items (mixKind X.prog X.w) d hs0,⟨vs,hdo⟩,?_⟩)
 refine Calls.spliced_nil ?_
 refine PySem.W.kdx_call (knd:=mixKind X.prog X.w) (kvs:=vs) (ep:=ep) (I1.ok.hd hc) ⟨_,Heap.get?_push_size _ rfl,rfl,rfl⟩ (hat.push _) (by omega) fun h' tk aQ c as hk hS hl hG hacc=> ?_
 obtain ⟨H',k1,k2,k3,k4,k5,k6,J⟩:=items_laid (tk:=tk) I2 hz kv hk hS hl hG hacc
 exact ⟨.ref _,H',J,rfl,q H' _ as k1 k2 k3 k4 k5 k6⟩
theorem Zm {ρ:List Addr} {H H0 H':Hp} {S S0:Hs} {σ:L2.St} {W':WX} {o:Ob} {Q:VK} {p:Addr} {ρ0:List Addr} (s0:bf G ρ0 H0 S0) (st0:Step ρ0 H0 ρ H) (s:bf G ρ H S) (h:PR G W' σ ρ H (.ok o S) (Ci G H0 Q)) (sm:Same H H') (hp:H p=none)
  (ho:∀ ρ',(∀ t,t∈ρ'→t∈ρ∨t=p)→Step ρ H ρ' H'→OR G ρ' H' p o):Q (.ref p) H':=by
 have n:p∉ρ:=s.free hp
 have bU:Step ρ H (ρ++[p]) H':=(bu sm).one hp
 refine h ρ _ (bu sm) (s.same sm) p (none_of s0 s st0 hp) n (ho ρ (fun _ h=>.inl h) (bu sm)) ⟨by simp [s.len],?_,fun r o' a h1 h2=> ?_⟩
 ·rw [List.nodup_append]
  exact ⟨s.nd,by simp,fun x hx y hy=>by
   have:y=p:=by simpa using hy
   subst this
   exact fun e=>n (e ▸ hx)⟩
 ·by_cases hr:r<S.length
  ·rw [List.getElem?_append_left hr] at h1
   rw [List.getElem?_append_left (by rw [s.len];exact hr)] at h2
   exact (s.at_ r o' a h1 h2).same bU sm
  ·have Ry:r=S.length:=by
    have:=(List.getElem?_eq_some_iff.mp h1).1
    simp at this
    omega
   subst Ry
   have e1:o'=o:=by simpa using h1.symm
   have e2:a=p:=by rw [← s.len] at h2;simpa using h2.symm
   subst e1 e2
   exact ho _ (fun t h=>by simpa using h) bU
theorem Pq {ρ:List Addr} {H:Hp}:∀ {ts:List Addr} {kvs:List (Key × V)} {ks:List Key} {xs:List Vl},Paired (fun (t:Addr) (q:Key × V)=>H t=some (.tup [kV q.1,q.2])) ts kvs→(∀ t∈ts,t∉ρ)→kvs.map (·.1)=ks→au G ρ H xs (kvs.map (·.2))→au G ρ H (bQ ks xs) (ts.map V.ref)
 | [],[],ks,xs,_,_,hk,hv=>by subst hk;cases xs<;>exact au.nil
 | t::ts,q::kvs,ks,xs,.cons h r,hn,hk,hv=>by
  subst hk
  cases xs with
  | nil=>simp [au] at hv
  | cons x xs=>
   simp only [List.map_cons,au] at hv
   obtain ⟨v,w,e,h1,h2⟩:=hv
   cases e
   simp only [List.map_cons,bQ]
   refine au.cons ?_ (Pq r (fun t ht=>hn t (List.mem_cons_of_mem _ ht)) rfl h2)
   simp only [VR]
   refine ⟨t,_,rfl,.inl ⟨.inl h,hn t List.mem_cons_self⟩,au.cons ?_ (au.cons h1 au.nil)⟩
   obtain ⟨kk,vv⟩:=q
   cases kk<;>simp only [VR]<;>rfl
theorem ahR [bT G X] (g:Good G k X) (hg:Gl X "list") (hm:X.mg "list"=none) (he:PE X e (tE G M W ca)) (fM:attributeBase e "items" X.env (eval e X.env)=eval e X.env:=by rfl) (fL:(cH.endLine==oZ.line)=true:=by rfl)
  (hs:starEach [.Call (.Attribute e "items" cH) [] [] oZ] X.env=(false,eval (.Call (.Attribute e "items" cH) [] [] oZ) X.env)::starEach [] X.env:=by rfl) :
  PE X (.Call (.Name "list" p) [.Call (.Attribute e "items" cH) [] [] oZ] [] pos) (tF G M W (.itl ca)):=
 (Jd g.calm he hg hm (by decide+kernel) fM fL hs).imp fun σ H Q ⟨ρ,η,S,s,r,h⟩=>⟨ρ,η,S,s,r,by
  simp only [d9] at h
  refine (PR.bind h).mono fun ρ1 H1 x S1 st s1 h1 v hv=> ?_
  split at h1
  ·rename_i ks xs ed
   obtain ⟨q,kvs,rfl,g1,g2,g3⟩:=nJ s1 hv ed
   refine ⟨q,kvs,rfl,g1,fun H' p ts sm hp hts hpt hH ht=>Zm s st s1 h1 sm hp fun ρ' hρ gG=>⟨_,hH,?_⟩⟩
   have hn:∀ t∈ts,t∉ρ1:=fun t h z=>s1.free (hts t h) z
   refine Pq ht (fun t h z=> ?_) g2 (au.step gG _ _ g3)
   rcases hρ t z with z | z
   ·exact hn t h z
   ·exact hpt (z ▸ h)
  ·exact h1.elim⟩
end
end Oz
namespace Oz
open PySem PySem.Spec L2 PyProof.Rows
section
variable {G:bB} {k n:Nat} {X:Cx} {M:aF} {W:WX} {a b c e:Expr} {ca cb cc:E} {cU:Es} {p p2 pos cH oZ jA:Pos} {te:TE}
def rLenT (X:Cx):List V→Hp→VK→Prop:=fun xs H Q=>∃ (a:Addr) (l:List Str),xs=[.ref a]∧H a=some (SetTO X.prog X.w a l)∧l.length<64∧Q (.int (l.length:Nat)) H
end
end Oz
namespace Oz
open PySem L2
theorem pid {p:Prop} (h:p):p:=h
def Ends (o:Out) (P:Out→Prop):Prop:=P o
def Kn (M:aF) (cs:Cs) (P:Out→Prop) (o:Out):Prop:=match o with
 | .nx η S=>Ends (exec M cs η S) P
 | o=>P o
def Tn (I:Sg→Hs→Prop) (P:Out→Prop) (o:Out):Prop:=match o with
 | .nx η S=>I η S
 | .cnt η S=>I η S
 | .brk η S=>P (.nx η S)
 | o=>P o
inductive QM {α:Type}:List α→Nat→α→List α→Prop where
 | z (a v:α) (l:List α):QM (a::l) 0 v (v::l)
 | s (a v:α) (l l':List α) (i:Nat) (h:QM l i v l'):QM (a::l) (i+1) v (a::l')
theorem QM.eq {α:Type} {l l':List α} {i:Nat} {v:α} (h:QM l i v l'):l.set i v=l':=by
 induction h with
 | z a v l=>rfl
 | s a v l l' i h ih=>rw [List.set_cons_succ,ih]
section
variable {M:aF} {c:C} {cs a b:Cs} {e e1 e2:E} {es:Es} {f:F} {t:Tg} {s:Src} {η η1 η2:Sg} {S S1 S2 S3 S4 S5 T T2:Hs} {x y z k:Vl} {o:Ob} {lk:List Lk} {xs:List Vl} {P:Out→Prop} {d:Bool} {i j:Nat}
theorem al1 (h:Ends (aP M c η S) (Kn M cs P)):Ends (exec M (.cons c cs) η S) P:=by
 unfold Ends Kn at *
 simp only [exec]
 cases q:aP M c η S<;>rw [q] at h<;>exact h
theorem ak8 (h:aP M c η S=.nx η1 S1) (k:Ends (exec M cs η1 S1) P):Ends (exec M (.cons c cs) η S) P:=by
 unfold Ends at *
 rw [aq h rfl];exact k
theorem afm (h:P (.nx η S)):Ends (exec M .nil η S) P:=by unfold Ends;rw [aM];exact h
theorem aaQ (h:Ends (exec M cs η S) P):Ends (exec M .nil η S) (Kn M cs P):=afm h
theorem rY (hv:ev M e η S=.ok x S1) (hb:QM η i (some x) η1) (k:Ends (exec M cs η1 S1) P):Ends (exec M (.cons (.asg (.nm i) e) cs) η S) P:=
 ak8 (bz x S1 hv (by unfold aZ;rw [hb.eq])) k
theorem afr (hv:ev M e η S=.ok x S1) (k:P (.ret (.val x) S1)):Ends (exec M (.cons (.ret e) cs) η S) P:=by unfold Ends;rw [bA (dJ x S1 hv)];exact k
theorem ags (hv:d9 M f η S=.ok o S1) (k:P (.ret (.frs o) S1)):Ends (exec M (.cons (.Y0 f) cs) η S) P:=by unfold Ends;rw [bA (agb o S1 hv)];exact k
theorem w_ite (ht:ev M e η S=.ok (.bl d) S1) (k1:d=true→Ends (exec M a η S1) (Kn M cs P)) (k0:d=false→Ends (exec M b η S1) (Kn M cs P)):Ends (exec M (.cons (.ite e a b) cs) η S) P:=by
 refine al1 ?_
 unfold Ends at *
 cases d with
 | true=>rw [cQ S1 ht rfl];exact k1 rfl
 | false=>rw [bD S1 ht rfl];exact k0 rfl
theorem abH (ht:ev M e η S=.ok (.bl d) S1) (hd:d=false) (k:Ends (exec M b η S1) (Kn M cs P)):Ends (exec M (.cons (.ite e a b) cs) η S) P:=w_ite ht (fun h=>by rw [hd] at h;cases h) fun _=>k
end
theorem Ends.mono {o:Out} {P Q:Out→Prop} (h:Ends o P) (k:∀ o,P o→Q o):Ends o Q:=k o h
theorem Tn.mono {I J:Sg→Hs→Prop} {P:Out→Prop} {o:Out} (h:Tn I P o) (k:∀ η S,I η S→J η S):Tn J P o:=by
 cases o<;>first | exact k _ _ h | exact h
def Ln (body:Sg→Hs→Out) (t:Tg) (xs:List Vl) (P:Out→Prop) (o:Out):Prop:=match o with
 | .nx η S=>Ends (forL body t [] xs η S) P
 | .cnt η S=>Ends (forL body t [] xs η S) P
 | .brk η S=>P (.nx η S)
 | o=>P o
section
variable {M:aF} {a b c e:E} {es:Es} {f:F} {op:Operator} {co p q:CmpOp} {η:Sg} {S S1 S2 S3 H H':Hs} {T T':Hs} {x y z v:Vl} {d d1 d2:Bool} {o:Ob} {xs ys:List Vl} {i k r:Nat} {g m cl:Str}
theorem aeT (ha:ev M a η S=.ok x S1) (hb:ev M b η S1=.ok y S2) (hp:cmpop p S2 x y=some d1) (hc:ev M e η S2=.ok z S2) (hq:cmpop q S2 y z=some d2):ev M (.Rq p q a b e) η S=.ok (.bl (d1&&d2)) S2:=by
 cases d1 with
 | true=>rw [Lj (d1:=true) ha hb hp hc hq];rfl
 | false=>rw [Mi ha hb hp];rfl
theorem aag (hc:ev M c η S=.ok (.bl d) S1) (hd:d=true) (ha:ev M a η S1=.ok x S2):ev M (.ite c a b) η S=.ok x S2:=by subst hd;exact lW hc ha
theorem ajq (hs:evs M es η S=.ok xs S1) (hz:Nat.ble xs.length 1000000=true):ev M (.tup es) η S=.ok (.tup xs) S1:=iK hs (Nat.le_of_ble_eq_true hz)
theorem rH (hs:evs M es η S=.ok xs S1) (hz:Nat.ble xs.length 1000000=true):d9 M (.lst es) η S=.ok (.lst xs) S1:=lL hs (Nat.le_of_ble_eq_true hz)
theorem KC {zs:List Vl} (ha:ev M a η S=.ok x S1) (hb:ev M b η S1=.ok y S2) (hx:bV S2 x=some xs) (hy:bV S2 y=some ys) (hz:xs.length+ys.length≤1000000) (e:xs++ys=zs):d9 M (.cat a b) η S=.ok (.lst zs) S2:=by rw [← e];exact ajr ha hb hx hy hz
theorem aig {ks:List Key} {vs zs:List Vl} (ha:ev M a η S=.ok x S1) (hd:aX S1 x=some (ks,vs)) (e:bQ ks vs=zs):d9 M (.itl a) η S=.ok (.lst zs) S1:=by simp only [d9,ha,Res.bind,hd,e]
theorem jr (hf:d9 M f η S=.ok (.lst xs) S1):ev M (.inl f) η S=.ok (.lst xs) S1:=dw hf
theorem aho (ha:ev M a η S=.ok x S1) (hm:lF S1 x cl m=true) (hs:evs M es η S1=.ok xs S2) (hc:M.cal (dot cl m) (x::xs) S2=.ok (.frs o) S3) (hv:o.inl=v):ev M (.Zi cl m a es) η S=.ok v S3:=by rw [aab ha hm hs hc];exact congrArg (Res.ok · S3) hv
theorem aeN {cl d:Str} {ns:List Str} {vs:List Vl} {w:Bool} (ha:ev M a η S=.ok (.err d ns vs) S1) (h:M.sub d cl=some w):ev M (.xP cl a) η S=.ok (.bl w) S1:=ajD ha h
theorem ajE (ha:ev M a η S=.ok x S1) {ns:List Str} (h:lJ S1 x=some (cl,ns,xs)):ev M (.isC cl a) η S=.ok (.bl true) S1:=Uw ha h
theorem ajH {ns:List Str} (h:lJ H x=some (cl,ns,xs)) (hn:ns.contains m=false):lF H x cl m=true:=by simp only [lF,h,hn,Bool.not_false,Bool.and_true,decide_true]
theorem aie (h:H[r]? =some (.lst xs)) (hx:xs[i]? =some x):dM H (.ref r) (.int i)=some x:=by
 unfold dM
 simp only [aX,h,cV]
 exact atI_nat hx
theorem Xn:∀ xs ys:List Vl,dH (xs++ys)=(dH xs&&dH ys)
 | [],ys=>by simp only [List.nil_append,dH,Bool.true_and]
 | x::xs,ys=>by simp only [List.cons_append,dH,Xn xs ys,Bool.and_assoc]
theorem El {z:Str} {l:List Str}:lX H (.str z) (.lst (l.map .str))=some (decide (z∈l)):=by
 have h1:(l.map Vl.str).all Vl.flat=true:=List.all_eq_true.mpr fun x hx=>by
  obtain ⟨w,_,rfl⟩:=List.mem_map.mp hx;rfl
 show (if ((Vl.str z).flat&&(l.map Vl.str).all Vl.flat)=true then some ((l.map Vl.str).any fun w=>eqF w (.str z)) else _)=_
 rw [if_pos (by rw [h1];rfl)]
 simp only [Option.some.injEq,List.any_map]
 rw [Bool.eq_iff_iff,List.any_eq_true,decide_eq_true_eq]
 constructor
 ·rintro ⟨w,hw,e⟩
  have:w=z:=by simpa [eqF,Function.comp] using e
  exact this ▸ hw
 ·exact fun h=>⟨z,h,by simp [eqF,Function.comp]⟩
end
section
variable {M:aF} {own:List Nat} {iJ test ke ve:E} {t:Tg} {s:Src} {η:Sg} {S S1:Hs} {lk:List Lk} {α:Type}
end
section
variable {M:aF} {own Rm:List Nat} {iJ test:E} {t t1:Tg} {s s1:Src} {η:Sg} {S:Hs} {lk:List Lk} {α β:Type}
end
theorem aiq {α:Type} (xs:List α) (c:Nat):tH xs (some (c:Int)) none=xs.drop c:=by
 unfold tH
 rw [HT.sIx_none,HT.sIx_nat]
 by_cases h:c≤xs.length
 ·rw [Nat.min_eq_left h,List.take_of_length_le (by simp)]
 ·rw [Nat.min_eq_right (by omega),List.drop_length,List.drop_of_length_le (by omega)]
  simp
theorem afg {α:Type} (xs:List α) (c:Nat):tH xs none (some (c:Int))=xs.take c:=by
 unfold tH
 rw [HT.sIx_none,HT.sIx_nat]
 simp only [List.drop_zero,Nat.sub_zero]
 by_cases h:c≤xs.length
 ·rw [Nat.min_eq_left h]
 ·rw [Nat.min_eq_right (by omega),List.take_length,List.take_of_length_le (by omega)]
mutual
theorem aio:∀ v:Vl,v.nr=true→v.ef=true
 | .non,_ | .bl _,_ | .int _,_ | .str _,_=>by simp only [Vl.ef]
 | .tup xs,h | .lst xs,h | .dct _ xs,h | .obj _ _ xs,h=>by simp only [Vl.nr] at h;simp only [Vl.ef];exact N5 xs h
 | .ref _,h | .err _ _ _,h=>by simp [Vl.nr] at h
theorem N5:∀ v:List Vl,dH v=true→Zh v=true
 | [],_=>by simp only [Zh]
 | x::xs,h=>by
  simp only [dH,Bool.and_eq_true] at h
  simp only [Zh,aio x h.1,N5 xs h.2,Bool.and_self]
end
theorem afd {S:Hs} (h:NR S):Uy S=true:=List.all_eq_true.mpr fun o ho=>by
 have:=h o ho
 cases o<;>exact N5 _ this
def efO (x:Option Vl):Bool:=match x with
 | some v=>v.ef
 | none=>true
theorem ado:Y7 []=true:=rfl
theorem ab1 (x:Option Vl) (η:Sg):Y7 (x::η)=(efO x&&Y7 η):=rfl
section
variable {M:aF} {cs bd hd:Cs} {η η1 η2:Sg} {S S1 S2:Hs} {i:Nat} {cl:Str} {er:Xc} {P:Out→Prop}
end
def RV (S:Hs) (Q:Vl→Prop) (o:Out):Prop:=∃ v T,o=.ret (.val v) (S++T)∧v.nr=true∧Q v
def RF (S:Hs) (Q:Ob→Prop) (o:Out):Prop:=∃ ob,Q ob∧ob.nr=true∧((∃ T,o=.ret (.frs ob) (S++T))∨∃ T r,o=.ret (.val (.ref (S.length+r))) (S++T)∧T[r]? =some ob)
section
variable {M:aF} {d:jU} {xs:List Vl} {S:Hs} {v:Vl} {o:Ob}
abbrev envOf (d:jU) (xs:List Vl):Sg:=xs.map some++List.replicate (d.nn - xs.length) none
theorem aij (Q:Vl→Prop) (hl:xs.length=d.np) (hS:NR S) (h2:d.two=false) (h:Ends (exec M d.body (envOf d xs) (S++[])) (RV S Q)):∃ v,Q v∧v.nr=true∧gK M d xs S=.ok (.val v) S:=by
 obtain ⟨v,T,e,hv,q⟩:=h
 rw [List.append_nil] at e
 exact ⟨v,q,hv,dh hl e hS hv h2⟩
theorem abQ (hl:xs.length=d.np) (hS:NR S) (h2:d.two=false) (h:Ends (exec M d.body (envOf d xs) (S++[])) (RV S (·=v))):gK M d xs S=.ok (.val v) S:=by
 obtain ⟨w,rfl,_,e⟩:=aij _ hl hS h2 h
 exact e
theorem ai9 (Q:Ob→Prop) (hl:xs.length=d.np) (hS:NR S) (h2:d.two=false) (h:Ends (exec M d.body (envOf d xs) (S++[])) (RF S Q)):∃ o,Q o∧o.nr=true∧gK M d xs S=.ok (.frs o) S:=by
 obtain ⟨o,q,ho,h⟩:=h
 rw [List.append_nil] at h
 rcases h with ⟨T,e⟩ | ⟨T,r,e,hr⟩
 ·exact ⟨o,q,ho,acy hl e hS ho h2⟩
 ·exact ⟨o,q,ho,uX hl e hS hr ho h2⟩
theorem abN (hl:xs.length=d.np) (hS:NR S) (h2:d.two=false) (h:Ends (exec M d.body (envOf d xs) (S++[])) (RF S (·=o))):gK M d xs S=.ok (.frs o) S:=by
 obtain ⟨w,rfl,_,e⟩:=ai9 _ hl hS h2 h
 exact e
def RX (S:Hs) (Q:Xc→Prop) (o:Out):Prop:=∃ x η T,o=.exc x η (S++T)∧(∀ ns vs,x.fs=some (ns,vs)→dH vs=true)∧Q x
theorem afw (Q:Xc→Prop) (hl:xs.length=d.np) (hS:NR S) (h:Ends (exec M d.body (envOf d xs) (S++[])) (RX S Q)):∃ x,Q x∧gK M d xs S=.exc x S:=by
 obtain ⟨x,η,T,e,hv,q⟩:=h
 rw [List.append_nil] at e
 exact ⟨x,q,M8 hl e hS hv⟩
end
end Oz
namespace Oz
open PySem L2
theorem G3 {xs:List Vl} {ds:List PyData} (h:uU xs=some ds):ds.isEmpty=xs.isEmpty:=by
 cases xs with
 | nil=>simp only [uU,Option.some.injEq] at h;subst h;rfl
 | cons x xs=>
  simp only [uU] at h
  split at h
  ·cases h;rfl
  ·cases h
theorem xM {S:Hs} {v:Vl} {xs:List Vl} (hv:dataOf S v=(Vl.lst xs).toD) (h:Il xs=true) (hd:pP xs≤50):oW S v (.lst [])=some xs.isEmpty:=by
 have p1:(Vl.lst xs).pd=true:=by simp only [Vl.pd];exact h
 have p2:(Vl.lst []).pd=true:=by simp only [Vl.pd,Il]
 obtain ⟨d1,e1,k1⟩:=Dd _ p1
 obtain ⟨d2,e2,k2⟩:=u5 S p2
 have d1':=k1.shaped (by simp only [Vl.dep];omega)
 have d2':=k2.shaped (by simp only [Vl.dep,pP];omega)
 unfold oW
 rw [hv,e1,e2]
 simp only
 rw [if_pos ⟨d1',d2'⟩]
 simp only [Vl.toD] at e1
 obtain ⟨ds,e3,rfl⟩:=Option.map_eq_some_iff.mp e1
 have f2:d2=.list []:=by
  unfold dataOf at e2
  rw [zj _ _ (Ws _ p2)] at e2
  simp only [Vl.toD,uU,Option.map_some,Option.some.injEq] at e2
  exact e2.symm
 subst f2
 rw [← G3 e3]
 cases ds<;>simp [PyData.eqv,PyData.eqvAll]
end Oz
namespace Oz
open PySem L2 PyProof.Rows
section
variable {G:bB} {M:aF} {W:WX} {X:Cx} {k:Nat}
def tP (K:PySem.W.Frag):ZR→TE
 | .nm i=>tVar i
 | .fl i f=>tFld K (tVar i) f
theorem aiJ {i:Nat} {x:Str} {p:Pos} (hN:X.N[i]? =some x) (hv:Vis X.env.scope x) (hd:(x==("__debug__":Str))=false:=by decide) (Ba:(x==("__classdict__":Str))=false:=by decide):PE X (.Name x p) (tP X.K (.nm i)):=pe_var hN hv hd Ba
def ZR.fok (K:PySem.W.Frag) (G:bB):ZR→Prop
 | .nm _=>True
 | .fl _ f=>(∀ c,Cls K (G.cl c))∧∀ c,NoAttr K (G.cl c) f
def Dk.it (d:Addr) (od:Obj) (kvs:List (Key × V)):Dk→It
 | .keys=>Itk d od kvs
 | .items=>Iti d od kvs
def tHd (K:PySem.W.Frag) (kd:Dk) (p:ZR):TI:=fun σ H R=>tP K p σ H fun v H1=>∃ d od kvs,v=.ref d∧H1 d=some (.frz od (.dK kvs))∧R (kd.it d od kvs) H1
section
variable {iJ tg iter kx vx:Expr} {jZ:List Expr} {scope:Scope} {own:List (Str × Nat)} {pos:Pos} {ce ke ve:E} {t:Tg} {ci:Es} {kd:Dk} {p:ZR}
end
theorem pn {x:Str} {p:Pos} (i:Nat) (hN:X.N[i]? =some x:=by rfl) (hv:Vis X.env.scope x:=by first | exact Or.inl rfl | exact Or.inr (Or.inl rfl) | exact Or.inr (Or.inr rfl)) (hd:(x==("__debug__":Str))=false:=by decide) (Ba:(x==("__classdict__":Str))=false:=by decide):PE X (.Name x p) (tP X.K (.nm i)):=aiJ hN hv hd Ba
end
end Oz
namespace Oz
open PySem PySem.Spec L2 PyProof.Rows
section
variable {P:Program} {w:World} {B:Around} {R:Result→Shared→Prop} {it:Addr} {fp wr:List Addr} {n:Nat} {Pv:Nat→Value→Prop} {tn:Nat→Heap→Prop} {y:Value}
end
section
variable {P:Program} {w:World} {A:Around} {E:Value→Shared→Prop} {s:Shared} {l:Addr} {its:List Value} {ns:List Int} {y:Value}
end
section
variable {G:bB} {k n:Nat} {X:Cx} {M:aF} {W:WX} {a b c e:Expr} {ca cb cc:E} {cU:Es} {p pos cH oZ ajP:Pos} {te:TE}
def anl:List V→List V→Hp→VK→Prop:=fun xs zs H Q=>∃ (l:Addr) (ns:List Int) (j:Int),xs=[.ref l]∧zs=[.int j]∧Rd H l (.lst (ns.map V.int))∧Q (.int ((QJ ns).getD j)) H
theorem au.keys {ρ:List Addr} {H:Hp}:∀ kvs:List (Key × V),au G ρ H ((kvs.map (·.1)).map V6) (kvs.map fun kv=>kV kv.1)
 | []=>au.nil
 | kv::kvs=>au.cons (by obtain ⟨kk,_⟩:=kv;cases kk<;>simp only [V6,VR]<;>rfl) (au.keys kvs)
end
end Oz
namespace Oz
open PySem L2 PyProof.Rows PySem.Froz PySem.Spec
section
variable {G:bB} {M:aF} {W:WX} {X:Cx} {k:Nat} {iJ tg iter:Expr} {jZ:List Expr} {scope:Scope} {own:List (Str × Nat)} {pos:Pos} {ce:E} {t:Tg} {qP:Src} {ci:Es}
def tS1 (G:bB) (M:aF) (W:WX) (P:Program) (w:World) (own:List Nat) (ce:E) (t:Tg) (qP:Src) (ci:Es):TE:=fun σ H Q=>∃ ρ η S,bf G ρ H S∧ER G ρ H η σ∧
 PR G W σ ρ H ((pC M qP η S).bind fun p S1=>(Bw (ae1 M ce own t ci η) p.1 p.2 S1).bind fun zs S2=>.ok zs S2) fun ρ' H' zs S'=>zs.length<64∧∀ p,H p=none→p∉ρ'→H' p=some (SetTO P w p (Oa zs []))→bf G ρ' H' S'→Q (.ref p) H'
end
end Oz
namespace Oz
open PySem L2 PyProof.Rows
section
variable {G:bB} {M:aF} {W:WX} {X:Cx} {k:Nat}
noncomputable def anN (M:aF) (ce:E) (Rm:List Nat) (t1:Tg) (ci1:Es) (η1:Sg) (y:Vl) (S5:Hs):Res (Option Vl):=match aZ t1 y (bR η1 Rm) with
 | none=>.bad
 | some η2=>(dB M ci1 η2 S5).bind fun b1 S6=>if b1=true then (ev M ce η2 S6).bind fun y S7=>.ok (some y) S7 else .ok none S6
noncomputable def aoH (M:aF) (own:List Nat) (t:Tg) (ci:Es) (T5:Src) (η:Sg) (x:Vl) (S2:Hs):Res (Option (Sg × List Lk × List Vl)):=match aZ t x (bR η own) with
 | none=>.bad
 | some η1=>(dB M ci η1 S2).bind fun b S3=>if b=true then (pC M T5 η1 S3).bind fun p1 S4=>.ok (some (η1,p1.1,p1.2)) S4 else .ok none S3
end
end Oz
namespace Oz
open PySem PySem.Spec L2 PyProof.Rows HT
section
variable {P:Program} {w:World} {A:Around} {E:Value→Shared→Prop} {s:Shared}
end
section
variable {G:bB} {M:aF} {W:WX} {X:Cx} {k:Nat} {a:Expr} {ca:E} {n:Nat} {p1 p2 p3 pos:Pos} {te:TE}
theorem au.rev {ρ:List Addr} {H:Hp}:∀ {xs:List Vl} {vs:List V},au G ρ H xs vs→au G ρ H xs.reverse vs.reverse
 | [],_,h=>by simp only [au] at h;subst h;exact au.nil
 | x::xs,vs,h=>by
  simp only [au] at h
  obtain ⟨v,r,rfl,h1,h2⟩:=h
  rw [List.reverse_cons,List.reverse_cons]
  exact (au.rev h2).append (au.cons h1 au.nil)
theorem ahI (g:Good G k X) (ha:PE X a (tE G M W ca)):PE X (.Subscript a (.Slice none none (some (.UnaryOp .USub (.Constant (.int 1) n p1) p2)) p3) pos) (tF G M W (.rev ca)):=(pe_revL ha).imp fun σ H Q ⟨ρ,η,S,s,r,h⟩=>⟨ρ,η,S,s,r,by
 simp only [d9] at h
 refine (PR.bind h).mono fun ρ1 H1 x S1 st s1 h1 v hv=> ?_
 split at h1
 ·rename_i xs ex
  obtain ⟨l,vs,rfl,h2,h3⟩:=lU s1 hv ex
  exact ⟨l,vs,rfl,.inl h2,fun q hq=>jD s st s1 h1 hq fun ρ' gG=>⟨_,upd_same,au.step gG _ _ (au.rev h3)⟩⟩
 ·exact h1.elim⟩
end
end Oz
namespace Oz
open PySem L2
def LS (S:Hs):Prop:=S.all (Ob.lim S.length)=true
theorem NR.ls {S:Hs} (h:NR S):LS S:=h.cl _
mutual
theorem ahG {n m:Nat} (h:n≤m):∀ v:Vl,v.lim n=true→v.lim m=true
 | .non,_ | .bl _,_ | .int _,_ | .str _,_=>by simp only [Vl.lim]
 | .tup xs,k | .lst xs,k | .dct _ xs,k | .obj _ _ xs,k | .err _ _ xs,k=>by simp only [Vl.lim] at k ⊢;exact LQ h xs k
 | .ref r,k=>by simp only [Vl.lim,decide_eq_true_eq] at k ⊢;omega
theorem LQ {n m:Nat} (h:n≤m):∀ v:List Vl,aV n v=true→aV m v=true
 | [],_=>by simp only [aV]
 | x::xs,k=>by
  simp only [aV,Bool.and_eq_true] at k ⊢
  exact ⟨ahG h x k.1,LQ h xs k.2⟩
end
theorem aia {n m:Nat} (h:n≤m) {o:Ob} (k:o.lim n=true):o.lim m=true:=by
 cases o<;>exact LQ h _ k
theorem LS.app {S T:Hs} (h:LS S) (k:∀ o∈T,Ob.lim (S++T).length o=true):LS (S++T):=List.all_eq_true.mpr fun o ho=>by
 rcases List.mem_append.mp ho with ho | ho
 ·exact aia (by simp) (List.all_eq_true.mp h o ho)
 ·exact k o ho
theorem LS.nr {S T:Hs} (h:LS S) (k:T.all Ob.nr=true):LS (S++T):=h.app fun o ho=>agV _ (List.all_eq_true.mp k o ho)
theorem LS.one {S:Hs} {o:Ob} (h:LS S) (k:o.nr=true):LS (S++[o]):=h.nr (by simp [k])
section
variable {M:aF} {d:jU} {xs:List Vl} {S T:Hs} {v:Vl} {o:Ob}
end
section
variable {M:aF} {own Rm:List Nat} {iJ:E} {t t1:Tg} {s s1:Src} {η:Sg} {S:Hs} {lk:List Lk} {α β:Type}
end
section
variable {M:aF} {a d:E} {η:Sg} {S S1 S2:Hs} {x:Vl} {xs:List Vl} {ks:List Key} {vs:List Vl}
theorem aj1 (ha:ev M a η S=.ok x S1) (hl:bV S1 x=some xs):d9 M (.rev a) η S=.ok (.lst xs.reverse) S1:=by simp only [d9,ha,Res.bind,hl]
end
section
variable {M:aF} {own:List Nat} {iJ:E} {t:Tg} {kd:Dk} {p:ZR} {η:Sg} {S:Hs} {x:Vl} {h:Hld} {α:Type} {b cs:Cs} {P:Out→Prop}
end
end Oz
namespace Oz
open PySem PySem.Spec L2 PyProof.Rows
section
variable {G:bB} {k n:Nat} {X:Cx} {M:aF} {W:WX} {f:Addr} {fd:FuncData} {ps ks:List Str} {q c m x:Str} {a b e:Expr} {es:List Expr} {ca cb:E} {cU kes cs:Es} {p pos cH ajP:Pos} {dxs:List Vl} {dvs:List V} {mv:List Value} {kws:List Keyword} {nm:Option Str}
def ai5 (S1:Hs):Res Rv→Res Vl
 | .ok (.val .non) T=>.ok (.ref S1.length) T
 | _=>.bad
def tNr (G:bB) (M:aF) (c:Str) (W:WX) (n:Nat) (cU:Es) (dxs:List Vl):TE:=fun σ H Q=>∃ ρ η S,bf G ρ H S∧ER G ρ H η σ∧PR G W σ ρ H (evs M cU η S) fun ρ1 H1 xs S1=>xs.length=n∧
 PR G W σ ρ1 H1 (ai5 S1 (M.cal (dot c "__init__") (.ref S1.length::(xs++dxs)) (S1++[.ins c [] []]))) (okV G Q)
end
end Oz
namespace Oz
open PySem PySem.Spec L2 PyProof.Rows
section
variable {G:bB} {k n:Nat} {X:Cx} {M:aF} {W:WX} {a b e:Expr} {ca cb:E} {p pos:Pos}
structure IsL (K:PySem.W.Frag) (u:Value):Prop where
 non:PySem.W.kitOne K (.type "NoneType") u=some false
 bl:PySem.W.kitOne K (.type "bool") u=some false
 int:PySem.W.kitOne K (.type "int") u=some false
 str:PySem.W.kitOne K (.type "str") u=some false
 tup:PySem.W.kitOne K (.type "tuple") u=some false
 lst:PySem.W.kitOne K (.type "list") u=some true
 dct:PySem.W.kitOne K (.type "dict") u=some false
end
section
variable {G:bB} {k n:Nat} {X:Cx} {M:aF} {W:WX} {a b e:Expr} {ca cb:E} {p pos:Pos}
structure anf (K:PySem.W.Frag) (u:Value):Prop where
 non:PySem.W.kitOne K (.type "NoneType") u=some false
 bl:PySem.W.kitOne K (.type "bool") u=some false
 int:PySem.W.kitOne K (.type "int") u=some false
 str:PySem.W.kitOne K (.type "str") u=some false
 tup:PySem.W.kitOne K (.type "tuple") u=some true
 lst:PySem.W.kitOne K (.type "list") u=some false
 dct:PySem.W.kitOne K (.type "dict") u=some false
end
end Oz
namespace Oz
open PySem PySem.Spec L2 PyProof.Rows
section
variable {P:Program} {w:World} {K:PySem.W.Frag} {mg:Str→Option Value} {base:Heap} {G:bB} {k n:Nat} {X:Cx} {M:aF} {W:WX} {f:Addr} {fd:FuncData} {ps:List Str} {q x:Str} {e:Expr} {es:List Expr} {cU cs:Es} {p pos:Pos} {dxs:List Vl} {dvs:List V} {mv:List Value} {sp:Sp}
structure anW (P:Program) (w:World) (K:PySem.W.Frag) (mg:Str→Option Value) (base:Heap) (G:bB) (M:aF) (k:Nat) (x q:Str) (n:Nat) (dxs:List Vl):Prop where
 ex:∃ (f:Addr) (fd:FuncData) (ps:List Str) (mv:List Value) (dvs:List V),qu P w K mg base k f fd ps (spI G M (n+dxs.length) q)∧mg x=some (.ref f)∧PySem.W.keepIn K (.ref f)=true∧KBn K fd ps n [] (fun us ws=>us++ws++mv) (fun vs zs=>vs++zs++dvs)∧Bg G dxs dvs
end
end Oz
namespace Oz
open PySem PySem.Spec L2 PyProof.Rows
section
variable {G:bB} {k:Nat} {X:Cx} {M:aF} {W:WX} {a b:Expr} {ca cb:E} {cH oZ:Pos}
end
section
variable {base h:Heap} {l:List Env} {e:Addr} {Z:Obj→Prop}
theorem abz (f:HandSPX.FlyingZ base l e Z h) (o:Obj):HandSPX.FlyingZ base l e Z (h.push o)∧h.UpToSlots (h.push o):=by
 have kp:∀ b u,h.get? b=some u→(h.push o).get? b=some u:=fun b u q=>Heap.get?_push_of_some _ q
 obtain ⟨f1,f2,f3,oe,vs,T,oT,ts,g1,g2,g3,g4,g5,g6,g7,g8,g9⟩:=f
 exact ⟨⟨fun b u q=>kp b u (f1 b u q),f2,f3.of_keeps fun b u q _=>⟨u,kp b u q,rfl⟩,oe,vs,T,oT,ts,kp _ _ g1,g2,g3,g4,g5,g6,kp _ _ g7,g8,g9⟩,Heap.UpToSlots.of_keeps kp⟩
end
def anC (K:PySem.W.Frag) (c1 c2:Value) (i:Nat) (ts:Addr→Value→Option Addr→TS) (zR:WX) (D:L2.Ends):WX:=fun cls d σ H=>
 ∃ b,PySem.W.exmAny K cls [c1,c2]=some b∧(b=true→∀ a,H a=none→ts a cls d { nx:=fun σ' H'=>D.nx (σ'.set i none) H',rt:=D.rt,bk:=fun σ' H'=>D.bk (σ'.set i none) H',ct:=fun σ' H'=>D.ct (σ'.set i none) H' } (σ.set i (some (.ref a))) H)∧
  (b=false→zR cls d σ H)
section
variable {X:Cx} {x1 x2 n:Str} {c1 c2:Value} {i kt:Nat} {body suite:List Stmt} {b₀:Stmt} {np1 np2 pt pos wJ:Pos} {tb:WX→TS} {ts:Addr→Value→Option Addr→TS} {zR:WX}
theorem Vt {X:Cx} {x:Str} {c:Value} {np:Pos} {a:Addr} {pn:List (Addr × Obj)} {σ:L2.St} {H:Hp} {s:Shared} (hc:Names X x c) (S3:Inv (X.suite a pn) [] σ H s) {Q:Value→Shared→Prop} {E:Value→Shared→Prop} (q:Q c s):wpAny (model X.prog X.w) (X.A.mark (some (.ref a))) (eval (.Name x np) X.env) Q E s:=by
 obtain ⟨hg,hdbg,hm | ⟨hm,hv,LC⟩⟩:=hc
 ·exact ld_glob (X:=X.suite a pn) S3 hg hm q hdbg
 ·exact ld_blt (X:=X.suite a pn) S3 hg hm hv q LC hdbg
end
section
variable {G:bB} {M:aF} {W:WX} {X:Cx} {k i kt:Nat} {x1 x2 c1 c2 n:Str} {cb ch:Cs} {body suite:List Stmt} {b₀:Stmt} {np1 np2 pt pos wJ:Pos} {cv1 cv2:Value}
end
section
variable {M:aF} {bd hd cs:Cs} {c1 c2:Str} {i:Nat} {η η1:Sg} {S S1:Hs} {P:Out→Prop} {er:Xc}
end
section
variable {G:bB} {k:Nat} {X:Cx} {M:aF} {W:WX} {a:Expr} {ca:E} {pos:Pos} {x:Str}
end
def ank (p:Addr) (zs:List Str):V→List V→Hp→VK→Prop:=fun x xs H Q=>∃ k,x=V.ref p∧xs=[.str k]∧k∈zs∧Q (.int (zs.idxOf k:Nat)) H
section
variable {G:bB} {k:Nat} {X:Cx} {M:aF} {W:WX} {e:Expr} {cb:E} {pos cH np:Pos} {x q:Str} {p:Addr} {zs:List Str} {its:Array Value} {n:Nat} {sl:Array (Option Value)} {kv:List (Str × Vl)}
end
end Oz
namespace Oz
open PySem PySem.Spec L2 PyProof.Rows
section
variable {X:Cx} {C fI:Addr}
theorem acx {pins:List (Addr × Obj)} {σ:L2.St} {H1 H2:Hp} {Q:XK} {hp zG h2:Heap} {g1 g2:Array GenState} {d1 d2:Drawn} {t1 t2:Nat} {os1 os2:OsState} {a C d:Addr} {fs:List (Str × V)} (T:Raises X (.ref C)) (I1:Inv X pins σ H1 ⟨hp,g1,d1,t1,os1⟩)
  (hn:hp.objs.size≤a) (kk:∀ b o,hp.get? b=some o→zG.get? b=some o) (un:Un (frs X.stack) [] (upd H1 a (exo a C none)) H2 zG h2) (ok:HOk X.prog X.w H2 h2) (eo:os2=os1) (br:AllBare g2)
  (ea:H2 a=some (exo a C (some d))) (ed:H2 d=some (exd d fs)) (nd:H1 d=none) (qq:Q (.ref C) (some d) (upd (del H2 a) d (.xd fs))):L2N.MkP X pins σ Q (.ref a) ⟨h2,g2,d2,t2,os2⟩:=by
 obtain ⟨t0,G,J,kG,ge,at_,na⟩:=mk_end0 (d2:=d2) (t2:=t2) I1 hn kk un ok eo br ea ed nd
 refine ⟨a,_,_,⟨G,g2,d2,t2,os2⟩,_,.ref C,some d,rfl,J,kG,ge,at_,⟨rfl,rfl,fun vs e=> ?_⟩,rfl,rfl,na,rfl,br,T,qq⟩
 cases e;rfl
theorem afE {X:Cx} {e:Expr} {es:List Expr} {ta:TA} {p pos:Pos} {b:Bx} {CX:CXT} {x:Str} {C fI:Addr} {k:Nat} {fd:FuncData} {ps:List Str} {sp:Sp} {ds:List Value} {dvs:List V} (bk:Od b) (T:Yo b X.K C) (iC:PySem.W.findIn X.K (.ref C) "__init__"=some (some (.ref fI))) (tI:PySem.W.typeIn X.K (.ref fI)=some (.type "function"))
  (F1:FnOk X.prog X.w X.K X.mg X.base CX k fI fd ps sp) (hr:Room (k+1) X.A) (hb:Binds X.K fd ps ds) (hd:Vals dvs ds) (hx:Passes CX X (fun _ _ _=>False)) (hg:Gl X x) (hm:X.mg x=some (.ref C)) (ha:PA X (e::es) ta)
  (sX:(x==("__debug__":Str))=false) (he:starEach (e::es) X.env=(false,eval e X.env)::starEach es X.env) (jt:(backTo pos (starEach es X.env)).any (·.1)=false) :
  L2N.PMk X (.Call (.Name x p) (e::es) [] pos) (tMkO C sp dvs ta):=by
 intro pins s σ H Q I h
 obtain ⟨nm,q,N,bs,bm,sn,sub,ab,col,dd,k0,k1,k2,k3,k5,eC,tlo⟩:=T.cls
 refine wpAny_Call_Name_kw (ld_glob I hg hm (PySem.W.callWith_K (h₀:=X.base) I.ok.mod.kin T.kp (thn (ha.run pos pins s σ H _ I h) fun us s1 ⟨vs,H1,I1,r1,hz,q1⟩=>⟨I1.kIn,?_⟩) he jt) sX)
 cases s1 with
 | mk hp g dr tk os=>
 have nn:hp.objs.size≤hp.objs.size+1:=Nat.le_succ _
 have hq:=q1 (hp.objs.size+1) (I1.hok.fresh nn)
 have kk:∀ c o,hp.get? c=some o→((hp.push (PySem.W.kdv_tup us)).push (PySem.HandSPX.excO C hp.objs.size)).get? c=some o:=fun c o e=>Heap.get?_push_of_some _ (Heap.get?_push_of_some _ e)
 have I2:Inv X pins σ (upd H1 (hp.objs.size+1) (exo (hp.objs.size+1) C none)) ⟨(hp.push (PySem.W.kdv_tup us)).push (PySem.HandSPX.excO C hp.objs.size),g,dr,tk,os⟩:=I1.laid (t':=tk) kk nn (exo_ok (by heap_get))
 have r2:Vals (V.ref (hp.objs.size+1)::(vs++dvs)) (Value.ref (hp.objs.size+1)::(us++ds)):=.cons rfl (r1.append hd)
 have hl:(Value.ref (hp.objs.size+1)::us++ds).length=ps.length:=(F1.len _ _ _ _ hq ▸ r2.length).symm
 have hus:us.length≤sizeLine:=by have:=Paired.length r1;rw [sizeLine_eq];omega
 refine wpAny_call (abB bk.base (by rw [PySem.W.excTail_contains _ bm tlo];exact bk.hB) (by rw [PySem.W.excTail_contains _ bm tlo];exact bk.hA) (by rw [PySem.W.excTail_contains _ bm tlo];exact bk.hN) (I1.kIn _ _ eC) (PySem.W.looks_findIn I1.kIn iC) (fun self=>PySem.W.bind_fn I1.kIn self tI) hus
  (codeAny_mono (F1.run _ X.stack _ _ ⟨Value.ref (hp.objs.size+1)::us,[]⟩ (Value.ref (hp.objs.size+1)::(us++ds)) _ _ (fun _ _ _=>False) (hr.make C us []) (I2.env0.make C us []) (hb _ (Value.ref (hp.objs.size+1)::us) I2.kIn hl) r2 hq) fun r s' hq'=> ?_))
 rcases r with er | fl
 ·exact hx pins σ _ _ er s' I2 hq'
 ·cases fl with
  | ret u=>
   obtain ⟨v,H2,os2,bare2,un2,hok2,rv,ev,d,fs,ea,ed,hd1,q2⟩:=hq'
   cases s'
   exact ⟨by subst ev;exact rv,acx (raises_own T.bx T.ty) I1 nn kk un2 hok2 os2 bare2 ea ed hd1 q2⟩
  | _=>exact False.elim hq'
end
section
variable {G:bB} {M:aF} {W:WX} {X:Cx} {k j:Nat} {c f:Str} {a:Expr} {ca:E} {p p2 pos jA:Pos}
theorem nq [bT G X] (g:Good G (k+2) X) (tk:L2N.Takes X W) (R:aeb X.prog X.w X.K X.mg X.base (G.xl c) c f) (hM:M.xi c=some (some f)) (ha:PE X a (tE G M W ca)) (hg:Gl X c:=by rfl) (sX:(c==("__debug__":Str))=false:=by decide)
  (he:starEach [a] X.env=(false,eval a X.env)::starEach [] X.env:=by rfl) (jt:(backTo pos (starEach [] X.env)).any (·.1)=false:=by rfl) :
  PS X (.Raise (some (.Call (.Name c p) [a] [] pos)) none jA) (tC G M W (.raise c (.cons ca .nil))):=by
 obtain ⟨bb,fI,fd,ps,bk,F1,T,iC,tI,hb,hm⟩:=R.ex
 refine (L2N.ps_raise g.calm tk (afE (dvs:=[]) bk T iC tI F1 (g.rm.mono (by omega)) hb .nil (fun _ _ _ _ _ _ I h=>passL _ _ _ _ _ _ I h) hg hm (uA ha gH he) sX he jt)).imp fun D σ H ⟨ρ,η,S,s,r,h⟩=>⟨ρ,η,S,s,r,?_⟩
 simp only [aP] at h
 refine (PQ.out s r h).mono fun ρ1 H1 xs S1 bU s1 hq vs hv=> ?_
 rw [hM] at hq
 cases xs with
 | nil=>exact hq.elim
 | cons x xs=>
  cases xs with
  | cons _ _=>exact hq.elim
  | nil=>
   simp only [au] at hv
   obtain ⟨v,r',rfl,hv,rfl⟩:=hv
   refine ⟨by simp,fun b hb=>⟨b,v,rfl,upd_same,fun d hd Lh=>⟨rfl,d,[(f,v)],upd_same,?_,?_,?_⟩⟩⟩
   ·rw [upd_ne Lh,upd_same]
   ·rwa [upd_ne Lh] at hd
   ·have hd1:H1 d=none:=by rwa [upd_ne Lh] at hd
    have sm:Same H1 (upd (del (upd (upd (upd H1 b (exo b (G.xl c) none)) d (exd d [(f,v)])) b (exo b (G.xl c) (some d))) b) d (.xd [(f,v)])):=fun y o hy=>by
     have n1:y≠d:=fun z=>by rw [z,hd1] at hy;cases hy
     have n2:y≠b:=fun z=>by rw [z,hb] at hy;cases hy
     rw [upd_ne n1,del_ne n2,upd_ne n2,upd_ne n1,upd_ne n2]
     exact hy
    have q:=hq ρ1 _ σ (bu sm) (s1.same sm) ((r.step bU).step (bu sm))
    exact q d [(f,v)] upd_same (fun z=>by
     obtain ⟨i,o,_,_,ho⟩:=s1.mem z
     obtain ⟨u,hu⟩:=ho.there
     rw [hd1] at hu;cases hu) rfl (au.cons (VR.step (bu sm) _ _ hv) au.nil)
theorem Ke {C:Addr} {bmB:List Value} {B afe agG x:String} (F:ExcBaseFacts B afe agG bmB) (q:PySem.W.excIn X.K C bmB afe=true) (hm:X.mg c=some (.ref C)) (kp:PySem.W.keepIn X.K (.ref C)=true) (r:Raises X (.ref C)) (hg:Gl X c)
  (sX:(c==("__debug__":Str))=false):L2H.PMk5 X (.Call (.Name c p) [] [] pos) (fun _ H Q=>Q (.ref C) none H):=by
 intro pins s σ H Q I h
 refine wpAny_Call_Name_kw (ld_glob I hg hm ?_ sX)
 refine PySem.W.callWith_K0 I.kIn kp ?_
 obtain ⟨bm,N,nm,qn,bs,hdct,sn,sub,ab,col,dd,k0,k1,k2,k3,k5,mN,hC,hN,hni,T⟩:=exc_obj I.kIn q
 exact wpAny_call_exc_subT F T hC hN hni (fun h' e made=>L2H.mk_of5 I made r h (I.hok.gone made.new)) (show 0≤sizeLine by rw [sizeLine_eq];omega)
theorem vC [bT G X] (g:Good G k X) (tk:Takes X W) (R:agK X.K X.mg (G.xl c) c) (hM:M.xi c=some none) (hg:Gl X c:=by rfl) (sX:(c==("__debug__":Str))=false:=by decide) :
  PS X (.Raise (some (.Call (.Name c p) [] [] pos)) none jA) (tC G M W (.raise c .nil)):=by
 obtain ⟨bb,bk,q,hm,kp,bx,ty⟩:=R.ex
 refine (L2N.ps_raise g.calm (Y8 tk) (Ke (x:="") bk.base q hm kp (raises_own bx ty) hg sX).pmk).imp fun D σ H ⟨ρ,η,S,s,r,h⟩=> ?_
 simp only [aP,evs,Res.out,hM,List.length_nil,Nat.zero_le,if_true] at h
 exact h ρ H σ (bu fun _ _ h=>h) s r
theorem RM (tk:Takes X W) (hot:L2H.HotC X) (R:agK X.K X.mg (G.xl c) c) (hM:M.xi c=some none) (hg:Gl X c:=by rfl) (sX:(c==("__debug__":Str))=false:=by decide) :
  PS X (.Raise (some (.Call (.Name c p) [] [] pos)) (some (.Constant .none j p2)) jA) (tC G M W (.raise c .nil)):=by
 obtain ⟨bb,bk,q,hm,kp,bx,ty⟩:=R.ex
 refine (L2H.ps_raiseHN hot tk (Ke (x:="") bk.base q hm kp (raises_own bx ty) hg sX)).imp fun D σ H ⟨ρ,η,S,s,r,h⟩=> ?_
 simp only [aP,evs,Res.out,hM,List.length_nil,Nat.zero_le,if_true] at h
 exact h ρ H σ (bu fun _ _ h=>h) s r
end
def aiz (K:PySem.W.Frag) (c1 c2:Value) (ts:Addr→Value→Option Addr→TS) (zR:WX) (D:L2.Ends):WX:=fun cls d σ H=>
 ∃ b,PySem.W.exmAny K cls [c1,c2]=some b∧(b=true→∀ a,H a=none→ts a cls d D σ H)∧(b=false→zR cls d σ H)
section
variable {X:Cx} {x1 x2:Str} {c1 c2:Value} {kt:Nat} {body suite:List Stmt} {b₀:Stmt} {np1 np2 pt pos wJ:Pos} {tb:WX→TS} {ts:Addr→Value→Option Addr→TS} {zR:WX}
theorem YK (hs:X.stack=X.env::X.outer) (hf:X.env.frame=some X.env.locals) (hc1:Names X x1 c1) (hc2:Names X x2 c2) (hpa:∀ hd:Option Value,PassesOwnAt (model X.prog X.w) (X.A.mark hd) X.A X.env X.xe) (tk:Takes X zR)
  (hb:∀ (W:WX) (pn:List (Addr × Obj)) (xe:Value→Shared→Prop),L2N.Takes (X.tr pn xe) W→PassesOwn (model X.prog X.w) X.A X.env xe→PSs (X.tr pn xe) body (tb W))
  (hsu:∀ (a:Addr) (oe:Obj) (cls:Value) (d:Option Addr) (pn:List (Addr × Obj)),L2N.Zn cls d oe→(∃ vs,oe.data=.fields vs)→Takes (L2H.suiteX X a ((a,oe)::pn)) zR→L2H.HotC (L2H.suiteX X a ((a,oe)::pn))→PSs (L2H.suiteX X a ((a,oe)::pn)) (b₀::suite) (ts a cls d)) :
  PS X (.Try body [.ExceptHandler (some (.Tuple [.Name x1 np1,.Name x2 np2] kt pt)) none (b₀::suite) wJ] [] [] pos) (fun D σ H=>tb (aiz X.K c1 c2 ts zR D) D σ H):=by
 refine ⟨fun pins s σ H D I h=> ?_⟩
 have ok:=I.ok
 have hfr:X.A.frames=some (X.env::X.outer):=by rw [ok.frames,hs]
 refine wpAny_Try_except ?_
 refine wpAny_mono ((hb (aiz X.K c1 c2 ts zR D) (X.pn++pins) (fun e s₁=>wpAny (model X.prog X.w) X.A (noteFrame e X.env) (fun _ s₂=>wpAny (model X.prog X.w) X.A (setFlight e none) (fun _ s₃=>
  wpAny (model X.prog X.w) X.A (handleBy e X.env [.ExceptHandler (some (.Tuple [.Name x1 np1,.Name x2 np2] kt pt)) none (b₀::suite) wJ]) (SP X pins D) X.xe s₃) X.xe s₂) X.xe s₁) (fun u s' xx=> ?_) PassesOwn.looking).run [] s σ H D (I.toTry _) h) (fun f s1 Cp=> ?_) (fun e s1 he=>he)
 ·obtain ⟨a,B,sI,pins',σ',H',cls,d,rfl,J',nb,up,sky,na,os,ag,b,hb1,hyes,hno⟩:=xx
  have J:Inv X pins σ' H' sI:=J'.ofTry ok
  have akP:Sky B (X.env::X.outer) a (L2N.Zn cls d) X.env.locals s'.heap:=by rw [← hs];exact sky
  show wpAny (model X.prog X.w) X.A (noteFrame (.ref a) X.env) _ _ _
  refine L2N.Sky.land L2N.Zn.steady hfr hf akP fun h3 fl3 up3=> ?_
  have J3:Inv X pins σ' H' { s' with heap:=h3 }:=J.landed nb fl3.1 (up.trans up3) os ag
  obtain ⟨oe3,vs3,he3,hz3,hd3⟩:=fl3.there
  have aiE:∀ {h:Heap} {o:Obj} {vs:Array Value},h.FunFrames B (X.env::X.outer)→h.get? a=some o→o.data=.fields vs→a∉frs (X.env::X.outer):=fun {h o vs} ff e dd hm=>by
   obtain ⟨_,o',e',hnf⟩:=ff.mem hm
   rw [e] at e';cases e'
   exact hnf _ dd
  have nfr:=aiE fl3.2.2.1 he3 hd3
  have nL:a≠X.env.locals:=fun z=>nfr (List.mem_filterMap.mpr ⟨X.env,List.mem_cons_self,by rw [hf,z]⟩)
  have nF:a∉X.fs:=fun hm=>by
   obtain ⟨e,he,q⟩:=List.mem_filterMap.mp hm
   exact nfr (List.mem_filterMap.mpr ⟨e,List.mem_cons_of_mem _ he,q⟩)
  have S3:=J3.suite he3 hd3 na nL nF
  refine wpAny_handleBy_cons (codeAny_handlers_test ?_) (by intro q;cases q)
  -- the pair of classes is laid
  obtain ⟨tp,etp⟩:∃ tp:Obj,tp={ cls:=.type "tuple",data:=.seq [c1,c2].toArray }:=⟨_,rfl⟩
  obtain ⟨h5,e5⟩:∃ h5,h5=h3.push tp:=⟨_,rfl⟩
  have fp:=abz fl3 tp
  rw [← e5] at fp
  obtain ⟨fl5,up5⟩:=fp
  have J5:Inv X pins σ' H' { s' with heap:=h5 }:=J.landed nb fl5.1 ((up.trans up3).trans up5) os ag
  obtain ⟨oe5,vs5,he5,hz5,hd5⟩:=fl5.there
  have htp:h5.get? h3.objs.size=some { cls:=.type "tuple",data:=.seq [c1,c2].toArray }:=by rw [e5,etp];exact Heap.get?_push_size _ rfl
  have LT:PySem.W.Looks (model X.prog X.w) h5 (typeOf (.ref a)) cls:=fun A Q E s k q=>wpAny_typeOf_ref (k _ _ he5) (by rw [hz5.1];exact q)
  have LM:=PySem.W.exm_tup2 (M:=model X.prog X.w) (J5.kIn) LT htp hb1
  refine wpAny_Tuple_spliced (Calls.spliced_cons (Vt hc1 S3 (Calls.spliced_cons (Vt hc2 S3 (Calls.spliced_nil ⟨show 2≤sizeLine by decide,?_⟩)))))
  have es:({ s' with heap:=h3.push { cls:=.type "tuple",data:=.seq [c1,c2].toArray } }:Shared)={ s' with heap:=h5 }:=by rw [e5,etp]
  show wpAny _ _ _ _ _ ({ s' with heap:=h3.push { cls:=.type "tuple",data:=.seq [c1,c2].toArray } }:Shared)
  rw [es]
  refine (LM.here ?_)
  cases b with
  | true=>
   refine codeAny_handlers_suite ?_
   refine HandSPX.lands_againZ fl5 fun h4 fl4 up4=> ?_
   have J4:Inv X pins σ' H' { s' with heap:=h4 }:=J.landed nb fl4.1 (((up.trans up3).trans up5).trans up4) os ag
   obtain ⟨oe4,vs4,he4,hz4,hd4⟩:=fl4.there
   have S4:=J4.suite he4 hd4 na nL nF
   have tkS:Takes (L2H.suiteX X a ((a,oe4)::(X.pn++pins))) zR:=fun u2 s2 x2=>by
    obtain ⟨a2,B2,sJ,pn2,σ2,H2,cls2,d2,e2,I2,nb2,up2,sk2,na2,os2,ag2,w2⟩:=x2
    exact tk u2 s2 ⟨a2,B2,sJ,pins,σ2,H2,cls2,d2,e2,L2H.unsuiteX I2 ok,nb2,up2,sk2,na2,os2,ag2,w2⟩
   have hot:L2H.HotC (L2H.suiteX X a ((a,oe4)::(X.pn++pins))):=⟨(a,oe4),⟨rfl,vs4,hd4,hz4.2.2 vs4 hd4⟩,List.mem_cons_self⟩
   refine wpAny_mono ((hsu a oe4 cls d (X.pn++pins) hz4 ⟨_,hd4⟩ tkS hot).run [] _ _ H' _ (L2H.suiteX_of S4) (hyes rfl a na)) (fun f s6 Cp=> ?_) (fun e6 s6 z=>hpa (some (.ref a)) e6 s6 z)
   cases f with
   | next=>obtain ⟨σ6,H6,S6,q6⟩:=Cp;exact ⟨_,_,L2H.unsuiteX S6 ok,q6⟩
   | brk=>obtain ⟨σ6,H6,S6,q6⟩:=Cp;exact ⟨_,_,L2H.unsuiteX S6 ok,q6⟩
   | cont=>obtain ⟨σ6,H6,S6,q6⟩:=Cp;exact ⟨_,_,L2H.unsuiteX S6 ok,q6⟩
   | ret u=>obtain ⟨v6,σ6,H6,S6,r6,q6⟩:=Cp;exact ⟨_,_,_,L2H.unsuiteX S6 ok,r6,q6⟩
  | false=>
   show wpAny _ X.A (handleBy (.ref a) X.env []) _ _ _
   refine wpAny_handleBy_nil ?_
   obtain ⟨k1,k2,k3,oe,vs,T,oT,ts',he,hz,hd,h1,hr⟩:=id fl5
   unfold PySem.passOn
   refine wpAny_bind (wpAny_field he hd h1 ?_)
   rw [if_neg (show ¬ ((Value.ref T==Value.none)=true) from by simp)]
   have fin:wpAny (model X.prog X.w) X.A (setFlight (.ref a) X.env.frame) (fun _ s4=>wpAny (model X.prog X.w) X.A (throw (.ref a):Sem Flow) (SP X pins D) X.xe s4) X.xe { s' with heap:=h5 }:=by
    rw [hf]
    refine HandSPX.setFlight_upZ (L2H.flyingZ_imp (fun o z=>z.zc) fl5) fun h4 hh4 up4=>wpAny_throw (tk _ _ ?_)
    exact ⟨a,B,sI,pins,σ',H',cls,d,rfl,J,nb,((up.trans up3).trans up5).trans up4,.inr (.inr (by rw [hs];exact hh4)),na,os,ag,hno rfl⟩
   first
    | exact wpAny_bind (wpAny_pure (wpAny_bind fin))
    | exact wpAny_bind fin
 ·cases f with
  | next=>
   obtain ⟨σ',H',J',q⟩:=Cp
   exact wpAny_execs_nil ⟨σ',H',J'.ofTry ok,q⟩
  | brk=>
   obtain ⟨σ',H',J',q⟩:=Cp
   exact ⟨σ',H',J'.ofTry ok,q⟩
  | cont=>
   obtain ⟨σ',H',J',q⟩:=Cp
   exact ⟨σ',H',J'.ofTry ok,q⟩
  | ret u=>
   obtain ⟨v,σ',H',J',r,q⟩:=Cp
   exact ⟨v,σ',H',J'.ofTry ok,r,q⟩
end
section
variable {G:bB} {M:aF} {W:WX} {X:Cx} {k kt:Nat} {x1 x2 c1 c2:Str} {cb ch:Cs} {body suite:List Stmt} {b₀:Stmt} {np1 np2 pt pos wJ:Pos} {cv1 cv2:Value}
theorem aax [bT G X] [ow:Own X] (g:Good G k X) (hc1:Names X x1 cv1) (hc2:Names X x2 cv2) (hpa:∀ hd:Option Value,PassesOwnAt (model X.prog X.w) (X.A.mark hd) X.A X.env X.xe) (tk:Takes X W)
  (hb:∀ (W':WX) (pn:List (Addr × Obj)) (xe:Value→Shared→Prop),Good G k (X.tr pn xe)→PassesOwn (model X.prog X.w) X.A X.env xe→abv (X.tr pn xe) W'→PSs (X.tr pn xe) body (vM G M W' cb))
  (hsu:∀ (a:Addr) (pn:List (Addr × Obj)),Takes (L2H.suiteX X a pn) W→L2H.HotC (L2H.suiteX X a pn)→PSs (L2H.suiteX X a pn) (b₀::suite) (vM G M W ch))
  (ajk:∀ (d:Str) (b:Bool),M.sub d c1=some b→PySem.W.exmOne X.K (.ref (G.xl d)) cv1=some b)
  (aiK:∀ (d:Str) (b:Bool),M.sub d c2=some b→PySem.W.exmOne X.K (.ref (G.xl d)) cv2=some b) :
  PS X (.Try body [.ExceptHandler (some (.Tuple [.Name x1 np1,.Name x2 np2] kt pt)) none (b₀::suite) wJ] [] [] pos) (tC G M W (.TY cb [c1,c2] ch)):=by
 refine (YK (tb:=fun W'=>vM G M W' cb) (ts:=fun a cls d=>vM G M W ch) ow.stk ow.frm hc1 hc2 hpa tk (fun W' pn xe tk' po=>hb W' pn xe (g.tr pn xe) po tk') (fun a oe cls d pn _ _ tS hot=>hsu a ((a,oe)::pn) tS hot)).imp fun D σ H ⟨ρ,η,S,s,r,h⟩=>⟨ρ,η,S,s,r,?_⟩
 simp only [aP] at h
 cases eo:exec M cb η S with
 | nx η1 S1=>rw [eo] at h;exact h
 | brk η1 S1=>rw [eo] at h;exact h
 | cnt η1 S1=>rw [eo] at h;exact h
 | ret r1 S1=>rw [eo] at h;exact h
 | bad=>rw [eo] at h;exact h
 | exc z η1 S1=>
  rw [eo] at h
  simp only [Gi] at h
  cases hm1:M.sub z.c c1 with
  | none=>rw [hm1] at h;exact h.elim
  | some b1=>
   cases hm2:M.sub z.c c2 with
   | none=>rw [hm1,hm2] at h;exact h.elim
   | some b2=>
    have Jf:PySem.W.exmAny X.K (.ref (G.xl z.c)) [cv1,cv2]=some (b1 || b2):=by
     unfold PySem.W.exmAny PySem.W.exmAny PySem.W.exmAny
     rw [ajk _ _ hm1,aiK _ _ hm2]
     simp
    rw [hm1,hm2] at h
    simp only [Bool.or_false] at h
    generalize (b1 || b2)=b at Jf h
    cases b with
    | false=>
     intro ρ' H' σ' st s' r'
     have q:XW G W σ' ρ' H' z:=h ρ' H' σ' st s' r'
     unfold XW at q ⊢
     split at q
     ·rename_i e
      exact ⟨false,Jf,(fun z=>nomatch z),fun _=>q⟩
     ·rename_i ns vs e
      exact fun d fs h1 h2 h3 h4=>⟨false,Jf,(fun z=>nomatch z),fun _=>q d fs h1 h2 h3 h4⟩
    | true=>
     intro ρ' H' σ' st s' r'
     have key:vM G M W ch D σ' H':=⟨ρ',η1,S1,s',r',PQ.step s st s' h⟩
     unfold XW
     split
     ·exact ⟨true,Jf,fun _ a _=>key,(fun z=>nomatch z)⟩
     ·exact fun d fs h1 h2 h3 h4=>⟨true,Jf,fun _ a _=>key,(fun z=>nomatch z)⟩
end
end Oz
namespace Oz
open PySem PySem.Spec L2 PyProof.Rows
def aoh (K:PySem.W.Frag) (c1 c2 c3:Value) (i:Nat) (ts:Addr→Value→Option Addr→TS) (zR:WX) (D:L2.Ends):WX:=fun cls d σ H=>
 ∃ b,PySem.W.exmAny K cls [c1,c2,c3]=some b∧(b=true→∀ a,H a=none→ts a cls d { nx:=fun σ' H'=>D.nx (σ'.set i none) H',rt:=D.rt,bk:=fun σ' H'=>D.bk (σ'.set i none) H',ct:=fun σ' H'=>D.ct (σ'.set i none) H' } (σ.set i (some (.ref a))) H)∧
  (b=false→zR cls d σ H)
section
variable {X:Cx} {x1 x2 x3 n:Str} {c1 c2 c3:Value} {i kt:Nat} {body suite:List Stmt} {b₀:Stmt} {np1 np2 np3 pt pos wJ:Pos} {tb:WX→TS} {ts:Addr→Value→Option Addr→TS} {zR:WX}
end
section
variable {G:bB} {M:aF} {W:WX} {X:Cx} {k i kt:Nat} {x1 x2 x3 c1 c2 c3 n:Str} {cb ch:Cs} {body suite:List Stmt} {b₀:Stmt} {np1 np2 np3 pt pos wJ:Pos} {cv1 cv2 cv3:Value}
end
section
variable {M:aF} {bd hd cs:Cs} {c1 c2 c3:Str} {i:Nat} {η η1:Sg} {S S1:Hs} {P:Out→Prop} {er:Xc}
end
section
open PySem.F
end
def bxK:Bx:=⟨"KeyError","LookupError.__new__","LookupError.__init__",[.type "KeyError",.type "LookupError",.type "Exception",.type "BaseException",.type "object"],"LookupError",bxL.tl⟩
end Oz
namespace Oz
open PySem L2 PyProof.Rows
section
variable {P:Program} {w:World} {A:Around} {E:Value→Shared→Prop} {I:Addr} {fp wr:List Addr} {GG:Array GenState→Array GenState→Prop} {n:Nat} {Pv:Nat→Value→Prop} {St:Nat→Shared→Prop}
abbrev amO (s:Shared) (its:Array Value) (k:Nat) (Q:List Value→Shared→Prop):Prop:=∀ (s':Shared) (l:Addr) (h':Heap),(∀ b o,s.heap.get? b=some o→s'.heap.get? b=some o)→s'.gens=s.gens→s'.os=s.os→(∀ b o,s'.heap.get? b=some o→h'.get? b=some o)→s'.heap.objs.size≤l→h'.get? l=some { cls:=.type "list",data:=.seq (its.toList.take k).toArray }→Q ([.ref l]++its.toList.drop k) { s' with heap:=h' }
end
section
variable {G:bB} {k:Nat} {X:Cx} {M:aF} {W:WX} {pos p:Pos} {e:Expr} {ce:E}
def anL (K:PySem.W.Frag) (to:TE) (f:Str):TG:=fun v σ H Q=>to σ H fun x H1=>∃ a C dx fs,x=.ref a∧H1 a=some (.ins C dx fs)∧L2.Cls K C∧L2.NoAttr K C f∧fs.length<1000∧Q σ (upd H1 a (.ins C dx (putF f v fs)))
end
section
variable {P:Program} {w:World} {K:PySem.W.Frag} {mg:Str→Option Value} {base:Heap} {G:bB} {M:aF} {W:WX} {X:Cx} {k n:Nat} {c m:Str} {a e:Expr} {es:List Expr} {ca:E} {cU cs:Es} {pos cH:Pos} {dxs:List Vl}
structure anx (P:Program) (w:World) (K:PySem.W.Frag) (mg:Str→Option Value) (base:Heap) (G:bB) (M:aF) (k:Nat) (c m:Str) (n:Nat) (dxs:List Vl):Prop where
 ex:∃ (f:Addr) (fd:FuncData) (ps:List Str) (ds:List Value) (dvs:List V),qu P w K mg base k f fd ps (spI G M n (dot c m))∧L2.Cls K (G.cl c)∧Meth K (G.cl c) m f∧Binds K fd ps ds∧Vals dvs ds∧Bg G dxs dvs
end
section
variable {M:aF} {cs:Cs} {η η1:Sg} {S S1 S2 S3 T T2:Hs} {P:Out→Prop} {e a1 a2:E} {x y z x2:Vl} {xs ys:List Vl} {f1 f2:Str} {i:Nat} {t:Tg}
end
end Oz
namespace Oz
open PySem PySem.Spec L2 PyProof.Rows
section
variable {G:bB} {k n:Nat} {X:Cx} {M:aF} {W:WX} {f C:Addr} {fd:FuncData} {ps:List Str} {sp:Sp} {dvs:List V} {ks:List Str} {mv:List Value}
end
section
variable {P:Program} {w:World} {K:PySem.W.Frag} {mg:Str→Option Value} {base:Heap} {G:bB} {M:aF} {W:WX} {X:Cx} {k n:Nat} {c m:Str} {a e:Expr} {es:List Expr} {kws:List Keyword} {ca:E} {cU kes cs:Es} {pos cH:Pos} {dxs:List Vl} {ks:List Str}
structure an3 (P:Program) (w:World) (K:PySem.W.Frag) (mg:Str→Option Value) (base:Heap) (G:bB) (M:aF) (k:Nat) (c m:Str) (n:Nat) (ks:List Str) (dxs:List Vl):Prop where
 ex:∃ (f:Addr) (fd:FuncData) (ps:List Str) (mv:List Value) (dvs:List V),qu P w K mg base k f fd ps (spI G M (n+1+ks.length+dxs.length) (dot c m))∧L2.Cls K (G.cl c)∧Meth K (G.cl c) m f∧KBn K fd ps (n+1) ks (fun us ws=>us++ws++mv) (fun vs zs=>vs++zs++dvs)∧Bg G dxs dvs
def tMk (X:Cx) (k n m':Nat) (G:bB) (M:aF) (c m:Str) (W:WX) (ca:E) (cU kes:Es) (dxs:List Vl):TE:=fun σ H Q=>∃ ρ η S,bf G ρ H S∧ER G ρ H η σ∧PR G W σ ρ H (ev M ca η S) fun ρ1 H1 x S1=>lF S1 x c m=true∧PR G W σ ρ1 H1 (evs M cU η S1) fun ρ2 H2 xs S2=>xs.length=n∧PR G W σ ρ2 H2 (evs M kes η S2) fun ρ3 H3 ys S3=>ys.length=m'∧PR G W σ ρ3 H3 (M.cal (dot c m) (x::(xs++ys++dxs)) S3) (okR G H3 Q)
end
section
variable {G:bB} {M:aF} {W:WX} {X:Cx} {k:Nat} {a b:Expr} {ca cb:E} {pos:Pos}
end
end Oz
namespace K04
open PySem L2 Oz
def Ko:List Str:=["text","least","most","sign"]
def wO:F:=
 (.comp [3] (.cmp .In (.var 3) (.cst (.str "abcdefghijklmnopqrstuvwxyz"))) (.nm 3) (.chars (.var 0)) .nil)
def Jw:Cs:=
 (.cons (.ret (.band (.Rq .LtE .LtE (.var 1) (.b1 .len (.var 0)) (.var 2)) (.b1 .all (.inl wO)))) .nil)
def Bl:jU:=⟨3,4,Jw,false⟩
def Lw:List Str:=["names","seen","name","target"]
def jd:Cs:=
 (.cons (.ite (.bor (.pY (.call "is_word" (.cons (.var 2) (.cons (.cst (.int 1)) (.cons (.cst (.int 6)) .nil))))) (.cmp .In (.var 2) (.var 1))) (.cons (.raise "BadName" (.cons (.var 2) .nil)) .nil) .nil) (.cons (.uH (.var 1) (.var 2) (.cst (.bl true))) .nil))
def NK:Cs:=
 (.cons (.asg (.nm 1) (.CG (.xR [] .nil))) (.cons (.for_ (.tp (.cons (.nm 2) (.cons (.nm 3) .nil))) (.sq (.var 0)) jd) .nil))
def yJ:jU:=⟨1,4,NK,false⟩
def Kv:List Str:=["word","targets","many","good","target"]
def rC:F:=
 (.comp [4] (.Rq .LtE .LtE (.cst (.int (-1))) (.var 4) (.var 2)) (.nm 4) (.sq (.var 1)) .nil)
def Jq:Cs:=
 (.cons (.ite (.cmp .Eq (.var 0) (.cst (.str "cell"))) (.cons (.asg (.nm 3) (.cmp .Eq (.b1 .len (.var 1)) (.cst (.int 2)))) .nil) (.cons (.asg (.nm 3) (.band (.call "is_word" (.cons (.var 0) (.cons (.cst (.int 2)) (.cons (.cst (.int 8)) .nil)))) (.cmp .LtE (.b1 .len (.var 1)) (.cst (.int 2))))) .nil)) (.cons (.ret (.band (.var 3) (.b1 .all (.inl rC)))) .nil))
def JV:jU:=⟨3,5,Jq,false⟩
def T7:List Str:=["names","items","found","seen","name","target","at","word","targets"]
def oK:Cs:=
 (.cons (.ite (.cmp .NotIn (.var 5) (.var 3)) (.cons (.uH (.var 3) (.var 5) (.cst (.bl true))) (.cons (.ex (.mut .append (.var 2) (.cons (.var 5) .nil))) .nil)) .nil) .nil)
def tK:Cs:=
 (.cons (.ite (.cmp .NotIn (.var 5) (.var 3)) (.cons (.uH (.var 3) (.var 5) (.cst (.bl true))) (.cons (.ex (.mut .append (.var 2) (.cons (.var 5) .nil))) .nil)) .nil) .nil)
def uL:Cs:=
 (.cons (.asg (.tp (.cons (.nm 7) (.cons (.nm 8) .nil))) (.idx (.var 1) (.bin .Sub (.idx (.var 2) (.var 6)) (.cst (.int 1))))) (.cons (.aug 6 .Add (.cst (.int 1))) (.cons (.for_ (.nm 5) (.sq (.var 8)) tK) .nil)))
def Ih:Cs:=
 (.cons (.asg (.nm 2) (.CG (.lst .nil))) (.cons (.asg (.nm 3) (.CG (.xR [Sum.inl (0),Sum.inl (-1)] (.cons (.cst (.bl true)) (.cons (.cst (.bl true)) .nil))))) (.cons (.for_ (.tp (.cons (.nm 4) (.cons (.nm 5) .nil))) (.sq (.inl (.YG (.var 0)))) oK) (.cons (.asg (.nm 6) (.cst (.int 0))) (.cons (.whl (.cmp .Lt (.var 6) (.b1 .len (.var 2))) uL) (.cons (.ret (.var 2)) .nil))))))
def Hz:jU:=⟨2,9,Ih,false⟩
def iy:List Str:=["self","names","items","place","word","targets","name","target","order","anew","at","point","one"]
def iQ:Cs:=
 (.cons (.ite (.pY (.call "is_item" (.cons (.var 4) (.cons (.var 5) (.cons (.b1 .len (.var 2)) .nil))))) (.cons (.raise "BadWeb" (.cons (.var 3) .nil)) .nil) .nil) .nil)
def ph:F:=
 (.comp [6,7] (.Rq .LtE .LtE (.cst (.int (-1))) (.var 7) (.b1 .len (.var 2))) (.tp (.cons (.nm 6) (.cons (.nm 7) .nil))) (.sq (.var 1)) .nil)
def wk:F:=
 (.Ku [10,11] (.var 11) (.var 10) (.tp (.cons (.nm 10) (.cons (.nm 11) .nil))) (.Y6 (.var 8) 1) .nil)
def wy:F:=
 (.Ku [6,7] (.var 6) (.idx (.var 9) (.var 7)) (.tp (.cons (.nm 6) (.cons (.nm 7) .nil))) (.sq (.inl (.YG (.var 1)))) .nil)
def vX:F:=
 (.comp [12] (.idx (.var 9) (.var 12)) (.nm 12) (.sq (.idx (.idx (.var 2) (.bin .Sub (.var 11) (.cst (.int 1)))) (.cst (.int 1)))) .nil)
def pq:F:=
 (.comp [11] (.tup (.cons (.idx (.idx (.var 2) (.bin .Sub (.var 11) (.cst (.int 1)))) (.cst (.int 0))) (.cons (.b1 .tuple (.inl vX)) .nil))) (.nm 11) (.sq (.var 8)) .nil)
def qX:Cs:=
 (.cons (.ex (.call "need_names" (.cons (.var 1) .nil))) (.cons (.for_ (.tp (.cons (.nm 3) (.cons (.tp (.cons (.nm 4) (.cons (.nm 5) .nil))) .nil))) (.Y6 (.var 2) 0) iQ) (.cons (.ite (.pY (.b1 .all (.inl ph))) (.cons (.raise "BadWeb" (.cons (.neg (.cst (.int 1))) .nil)) .nil) .nil) (.cons (.ite (.bor (.cmp .Gt (.b1 .len (.var 1)) (.cst (.int 6))) (.cmp .Gt (.b1 .len (.var 2)) (.cst (.int 200)))) (.cons (.raise "BadWeb" (.cons (.cst .non) .nil)) .nil) .nil) (.cons (.asg (.nm 8) (.call "met_from" (.cons (.var 1) (.cons (.var 2) .nil)))) (.cons (.ite (.cmp .Lt (.b1 .len (.var 8)) (.b1 .len (.var 2))) (.cons (.raise "BadWeb" (.cons (.cst .non) .nil)) .nil) .nil) (.cons (.asg (.nm 9) (.CG wk)) (.cons (.Vc (.var 9) (.cst (.int 0)) (.var 9) (.cst (.int (-1))) (.tup (.cons (.cst (.int 0)) (.cons (.cst (.int (-1))) .nil)))) (.cons (.fset (.var 0) "leads" (.inl wy)) (.cons (.fset (.var 0) "spots" (.inl pq)) .nil))))))))))
def qM:jU:=⟨3,13,qX,false⟩
def TV:List Str:=["self","other"]
def Fj:Cs:=
 (.cons (.ret (.band (.isC "Web" (.var 1)) (.band (.cmp .Eq (.fld (.var 0) "leads") (.fld (.var 1) "leads")) (.cmp .Eq (.fld (.var 0) "spots") (.fld (.var 1) "spots"))))) .nil)
def Hw:jU:=⟨2,2,Fj,false⟩
def Mf:List Str:=["self"]
def zF:Cs:=
 (.cons (.ret (.b1 .str (.call "web_text" (.cons (.fld (.var 0) "leads") (.cons (.fld (.var 0) "spots") .nil))))) .nil)
def xU:jU:=⟨1,1,zF,false⟩
def Cy:List Str:=["self"]
abbrev sO:Cs:=
 (.cons (.Y0 (.itl (.fld (.var 0) "leads"))) .nil)
def su:jU:=⟨1,1,sO,false⟩
def Cv:List Str:=["self"]
abbrev sH:Cs:=
 (.cons (.Y0 (.cpy (.fld (.var 0) "spots"))) .nil)
def sE:jU:=⟨1,1,sH,false⟩
def afJ:List Str:=["target"]
def acj:Cs:=
 (.cons (.ite (.cmp .Eq (.var 0) (.cst (.int 0))) (.cons (.ret (.cst (.str "-"))) .nil) .nil) (.cons (.ret (.ite (.cmp .Eq (.var 0) (.cst (.int (-1)))) (.cst (.str "*")) (.b1 .str (.var 0)))) .nil))
def aaH:jU:=⟨1,1,acj,false⟩
def wX:List Str:=["leads","spots","words","name","target","at","word","targets","inner"]
def uw:F:=
 (.yH [3,4] (.fs (.cons (.var 3) (.cons (.cst (.str "=")) (.cons (.call "mark" (.cons (.var 4) .nil)) .nil)))) (.tp (.cons (.nm 3) (.cons (.nm 4) .nil))) 0 .nil)
def uI:F:=
 (.comp [4] (.call "mark" (.cons (.var 4) .nil)) (.nm 4) (.sq (.var 7)) .nil)
def uN:Cs:=
 (.cons (.asg (.nm 8) (.tm .join (.cst (.str ",")) (.inl uI))) (.cons (.ex (.mut .append (.var 2) (.cons (.fs (.cons (.var 5) (.cons (.cst (.str ":")) (.cons (.var 6) (.cons (.cst (.str "(")) (.cons (.var 8) (.cons (.cst (.str ")")) .nil))))))) .nil))) .nil))
def Gv:Cs:=
 (.cons (.asg (.nm 2) (.CG uw)) (.cons (.for_ (.tp (.cons (.nm 5) (.cons (.tp (.cons (.nm 6) (.cons (.nm 7) .nil))) .nil))) (.Y6 (.var 1) 1) uN) (.cons (.ret (.ite (.cmp .Gt (.b1 .len (.var 2)) (.cst (.int 0))) (.tm .join (.cst (.str " ")) (.var 2)) (.cst (.str "empty")))) .nil)))
def Ds:jU:=⟨2,9,Gv,false⟩
def BR:List Str:=["word","sign"]
abbrev jG:F:=
 (.comp [1] (.cmp .In (.var 1) (.cst (.str "0123456789"))) (.nm 1) (.chars (.var 0)) .nil)
abbrev jx:Cs:=
 (.cons (.ite (.cmp .Eq (.var 0) (.cst (.str "-"))) (.cons (.ret (.cst (.int 0))) .nil) .nil) (.cons (.ite (.cmp .Eq (.var 0) (.cst (.str "*"))) (.cons (.ret (.cst (.int (-1)))) .nil) .nil) (.cons (.ite (.bor (.pY (.Rq .LtE .LtE (.cst (.int 1)) (.b1 .len (.var 0)) (.cst (.int 3)))) (.pY (.b1 .all (.inl jG)))) (.cons (.raise "BadText" .nil) .nil) .nil) (.cons (.ret (.b1 .int (.var 0))) .nil))))
def uF:jU:=⟨1,2,jx,false⟩
def Cg:List Str:=["text","word","bracket","rest","inner","one"]
abbrev fG:F:=
 (.WL [5] (.call "read_mark" (.cons (.var 5) .nil)) (.nm 5) (.sq (.inl (.split (.var 4) (.cst (.str ","))))))
abbrev lM:Cs:=
 (.cons (.asg (.tp (.cons (.nm 1) (.cons (.nm 2) (.cons (.nm 3) .nil)))) (.tm .part (.var 0) (.cst (.str "(")))) (.cons (.ite (.bor (.cmp .Eq (.var 2) (.cst (.str ""))) (.cmp .NotEq (.Cz (.var 3) (.some (.neg (.cst (.int 1)))) .none) (.cst (.str ")")))) (.cons (.raise "BadText" .nil) .nil) .nil) (.cons (.asg (.nm 4) (.Cz (.var 3) .none (.some (.neg (.cst (.int 1)))))) (.cons (.ret (.tup (.cons (.var 1) (.cons (.ite (.cmp .NotEq (.var 4) (.cst (.str ""))) (.b1 .tuple (.inl fG)) (.tup .nil)) .nil)))) .nil))))
def lG:jU:=⟨1,6,lM,false⟩
def Tz:List Str:=["text","names","items","word","name","sign","rest","number","colon","item","found"]
abbrev cG:Cs:=
 (.cons (.asg (.tp (.cons (.nm 4) (.cons (.nm 5) (.cons (.nm 6) .nil)))) (.tm .part (.var 3) (.cst (.str "=")))) (.cons (.ite (.cmp .Eq (.var 5) (.cst (.str "="))) (.cons (.ex (.mut .append (.var 1) (.cons (.tup (.cons (.var 4) (.cons (.call "read_mark" (.cons (.var 6) .nil)) .nil))) .nil))) .nil) (.cons (.asg (.tp (.cons (.nm 7) (.cons (.nm 8) (.cons (.nm 9) .nil)))) (.tm .part (.var 3) (.cst (.str ":")))) (.cons (.ite (.cmp .NotEq (.var 8) (.cst (.str ":"))) (.cons (.raise "BadText" .nil) .nil) .nil) (.cons (.ex (.mut .append (.var 2) (.cons (.call "read_item" (.cons (.var 9) .nil)) .nil))) .nil)))) .nil))
abbrev tR:Cs:=
 (.cons (.asg (.nm 10) (.inl (.new "Web" (.cons (.var 1) (.cons (.var 2) .nil))))) .nil)
abbrev FT:Cs:=
 (.cons (.par 1 2 (.CG (.lst .nil)) (.CG (.lst .nil))) (.cons (.for_ (.nm 3) (.sq (.ite (.cmp .Eq (.var 0) (.cst (.str "empty"))) (.inl (.lst .nil)) (.inl (.split (.var 0) (.cst (.str " ")))))) cG) (.cons (.TY tR ["BadName","BadWeb"] (.cons (.raise "BadText" .nil) .nil)) (.cons (.ite (.cmp .NotEq (.K7 "Web" (.var 10)) (.var 0)) (.cons (.raise "BadText" .nil) .nil) .nil) (.cons (.ret (.var 10)) .nil)))))
def wH:jU:=⟨1,11,FT,false⟩
def aep:List Str:=["_law_script","_law_k","_law_base","_law_one"]
def DP:Cs:=
 (.cons (.asg (.nm 2) (.bin .Mod (.bin .Add (.bin .Mult (.var 2) (.cst (.int 31))) (.var 3)) (.cst (.int 1000003)))) .nil)
def xZ:Cs:=
 (.cons (.ite (.cmp .Lt (.var 1) (.b1 .len (.var 0))) (.cons (.ret (.idx (.var 0) (.var 1))) .nil) .nil) (.cons (.asg (.nm 2) (.cst (.int 17))) (.cons (.for_ (.nm 3) (.sq (.var 0)) DP) (.cons (.ret (.bin .Mod (.bin .Mult (.bin .Mult (.bin .Add (.var 2) (.cst (.int 1))) (.bin .Add (.var 1) (.cst (.int 3)))) (.cst (.int 7919))) (.cst (.int 2147483629)))) .nil))))
def Vv:jU:=⟨2,4,xZ,false⟩
def XM:List Str:=["_law_script","_law_k","_law_sizes","_law_cell_here","_law_out","_law_rest","_law_size","_law_one","_law_j","_law_two"]
def wR:Cs:=
 (.cons (.ex (.mut .append (.var 4) (.cons (.bin .Mod (.var 5) (.var 6)) .nil))) (.cons (.asg (.nm 5) (.bin .FloorDiv (.var 5) (.var 6))) .nil))
def wF:Cs:=
 (.cons (.asg (.nm 7) (.bin .Mod (.bin .Add (.bin .Mult (.var 7) (.cst (.int 48271))) (.bin .Mult (.cst (.int 10007)) (.bin .Add (.var 8) (.cst (.int 1))))) (.cst (.int 2147483629)))) (.cons (.asg (.nm 9) (.bin .Mod (.bin .Add (.bin .Add (.bin .Mult (.var 7) (.var 7)) (.bin .Mult (.cst (.int 69621)) (.var 7))) (.var 8)) (.cst (.int 2147483563)))) (.cons (.ex (.mut .append (.var 4) (.cons (.bin .Mod (.bin .FloorDiv (.var 9) (.cst (.int 11))) (.idx (.var 2) (.var 8))) .nil))) .nil)))
def qd:Cs:=
 (.cons (.asg (.nm 3) (.call "_law_cell" (.cons (.var 0) (.cons (.var 1) .nil)))) (.cons (.asg (.nm 4) (.CG (.lst .nil))) (.cons (.ite (.cmp .GtE (.var 3) (.bin .Pow (.cst (.int 10)) (.cst (.int 18)))) (.cons (.asg (.nm 5) (.bin .Sub (.var 3) (.bin .Pow (.cst (.int 10)) (.cst (.int 18))))) (.cons (.for_ (.nm 6) (.sq (.var 2)) wR) (.cons (.ret (.var 4)) .nil))) .nil) (.cons (.asg (.nm 7) (.bin .Mod (.var 3) (.cst (.int 2147483647)))) (.cons (.for_ (.nm 8) (.xY (.b1 .len (.var 2))) wF) (.cons (.ret (.var 4)) .nil))))))
def JQ:jU:=⟨3,10,qd,false⟩
def acH:List Str:=["_law_one","_law_other"]
def Oj:Cs:=
 (.cons (.ite (.isD (.var 1)) (.cons .bad .nil) .nil) (.cons (.ret (.band (.cmp .Eq (.var 0) (.var 1)) (.cmp .Eq (.b1 .repr (.var 0)) (.b1 .repr (.var 1))))) .nil))
def W6:jU:=⟨2,2,Oj,false⟩
def agk:List Str:=["_law_e","_law_rows","_law_words","_law_at","_law_outer","_law_due"]
abbrev aaM:Cs:=
 (.cons (.asg (.nm 1) (.inl (.lst (.cons (.xP "BadName" (.var 0)) (.cons (.xP "BadWeb" (.var 0)) (.cons (.xP "Full" (.var 0)) (.cons (.xP "BadText" (.var 0)) .nil))))))) (.cons (.asg (.nm 1) (.inl (.cat (.var 1) (.inl (.lst (.cons (.xP "BadPoints" (.var 0)) (.cons (.xP "BadRule" (.var 0)) (.cons (.xP "Groundless" (.var 0)) .nil)))))))) (.cons (.asg (.nm 1) (.inl (.cat (.var 1) (.inl (.lst (.cons (.xP "BadItem" (.var 0)) (.cons (.xP "BadRow" (.var 0)) (.cons (.xP "BadLoftName" (.var 0)) (.cons (.xP "BadPage" (.var 0)) .nil))))))))) (.cons (.asg (.nm 1) (.inl (.cat (.var 1) (.inl (.lst (.cons (.xP "Shut" (.var 0)) (.cons (.xP "NoName" (.var 0)) (.cons (.xP "NoShape" (.var 0)) (.cons (.xP "NoRow" (.var 0)) .nil))))))))) (.cons (.asg (.nm 1) (.inl (.cat (.var 1) (.inl (.lst (.cons (.xP "NoProgram" (.var 0)) (.cons (.xP "NoNumber" (.var 0)) (.cons (.xP "Taken" (.var 0)) (.cons (.xP "Nothing" (.var 0)) .nil))))))))) (.cons (.asg (.nm 2) (.cst (.str "BadName BadWeb Full BadText BadPoints BadRule Groundless BadItem BadRow "))) (.cons (.asg (.nm 2) (.bin .Add (.var 2) (.cst (.str "BadLoftName BadPage Shut NoName NoShape NoRow NoProgram NoNumber Taken Nothing")))) (.cons (.ite (.cmp .NotEq (.abu (.var 1) (.cst (.bl true))) (.cst (.int 1))) (.cons (.ret (.cst (.str "several"))) .nil) .nil) (.cons (.asg (.nm 3) (.ab3 (.var 1) (.cst (.bl true)))) (.cons (.asg (.nm 4) (.inl (.lst (.cons (.xP "OsierError" (.var 0)) (.cons (.xP "Missing" (.var 0)) (.cons (.xP "ValueError" (.var 0)) .nil)))))) (.cons (.asg (.nm 4) (.inl (.cat (.var 4) (.inl (.lst (.cons (.xP "LookupError" (.var 0)) (.cons (.xP "KeyError" (.var 0)) (.cons (.xP "IndexError" (.var 0)) .nil)))))))) (.cons (.asg (.nm 5) (.inl (.lst (.cons (.cmp .Lt (.var 3) (.cst (.int 12))) (.cons (.Rq .Lt .Lt (.cst (.int 11)) (.var 3) (.cst (.int 17))) (.cons (.cmp .Lt (.var 3) (.cst (.int 12))) (.cons (.cmp .Gt (.var 3) (.cst (.int 11))) (.cons (.cmp .Eq (.var 3) (.cst (.int 17))) (.cons (.cmp .Eq (.var 3) (.cst (.int 18))) .nil))))))))) (.cons (.ret (.ite (.cmp .Eq (.var 4) (.var 5)) (.idx (.inl (.split (.var 2) (.cst (.str " ")))) (.var 3)) (.cst (.str "elsewhere")))) .nil)))))))))))))
def Uu:jU:=⟨1,6,aaM,false⟩
def yr:List Str:=["_law_script","_law_k","_law_many","_law_found","_law_letters","_law_j","_law_one","_law_two","_law_size","_law_place","_law_rest","_law_i","_law_sort_of","_law_name","_law_tries","_law_tail","_law_one_more"]
def JP:F:=
 (.comp [11] (.idx (.var 4) (.bin .Mod (.bin .Add (.bin .Add (.var 6) (.bin .Mult (.var 11) (.var 7))) (.bin .Mult (.cst (.int 3)) (.var 5))) (.cst (.int 26)))) (.nm 11) (.xY (.var 8)) .nil)
def zL:F:=
 (.comp [15] (.bin .Add (.bin .Add (.cst (.str "z")) (.idx (.var 4) (.var 5))) (.var 15)) (.nm 15) (.chars (.cst (.str "ijklmnopqrst"))) .nil)
def zU:F:=
 (.comp [16] (.var 16) (.nm 16) (.sq (.var 14)) (.cons (.cmp .NotIn (.var 16) (.var 3)) .nil))
def pK:Cs:=
 (.cons (.asg (.tp (.cons (.nm 6) (.cons (.nm 7) (.cons (.nm 8) (.cons (.nm 9) .nil))))) (.call "_law_digits" (.cons (.var 0) (.cons (.bin .Add (.var 1) (.bin .Mod (.var 5) (.cst (.int 2)))) (.cons (.inl (.lst (.cons (.cst (.int 26)) (.cons (.cst (.int 26)) (.cons (.cst (.int 6)) (.cons (.cst (.int 5)) .nil)))))) .nil))))) (.cons (.asg (.nm 10) (.tm .join (.cst (.str "")) (.inl JP))) (.cons (.asg (.nm 12) (.idx (.var 4) (.bin .Mod (.bin .Add (.bin .Add (.var 6) (.bin .Mult (.cst (.int 7)) (.var 5))) (.cst (.int 11))) (.cst (.int 26))))) (.cons (.asg (.nm 13) (.bin .Add (.bin .Add (.Cz (.var 10) .none (.some (.var 9))) (.var 12)) (.Cz (.var 10) (.some (.var 9)) .none))) (.cons (.ite (.cmp .In (.var 13) (.var 3)) (.cons (.asg (.nm 14) (.inl zL)) (.cons (.asg (.nm 13) (.idx (.inl zU) (.cst (.int 0)))) .nil)) .nil) (.cons (.ex (.mut .append (.var 3) (.cons (.var 13) .nil))) .nil))))))
def Gn:Cs:=
 (.cons (.asg (.tp (.cons (.nm 3) (.cons (.nm 4) .nil))) (.tup (.cons (.CG (.lst .nil)) (.cons (.cst (.str "abcdefghijklmnopqrstuvwxyz")) .nil)))) (.cons (.for_ (.nm 5) (.xY (.var 2)) pK) (.cons (.ret (.var 3)) .nil)))
def Ph:jU:=⟨3,17,Gn,false⟩
def agO:List Str:=["_law_leads","_law_spots","_law_found","_law_name","_law_k","_law_target"]
def M7:Cs:=
 (.cons (.ite (.band (.cmp .Gt (.idx (.var 0) (.var 3)) (.cst (.int 0))) (.cmp .NotIn (.idx (.var 0) (.var 3)) (.var 2))) (.cons (.ex (.mut .append (.var 2) (.cons (.idx (.var 0) (.var 3)) .nil))) .nil) .nil) .nil)
def M3:Cs:=
 (.cons (.ite (.band (.cmp .Gt (.var 5) (.cst (.int 0))) (.cmp .NotIn (.var 5) (.var 2))) (.cons (.ex (.mut .append (.var 2) (.cons (.var 5) .nil))) .nil) .nil) .nil)
def NT:Cs:=
 (.cons (.ite (.cmp .Lt (.var 4) (.b1 .len (.var 2))) (.cons (.for_ (.nm 5) (.sq (.idx (.idx (.var 1) (.idx (.var 2) (.var 4))) (.cst (.int 1)))) M3) .nil) .nil) .nil)
def ZM:Cs:=
 (.cons (.asg (.nm 2) (.CG (.lst .nil))) (.cons (.for_ (.nm 3) (.sq (.inl (.XR (.var 0)))) M7) (.cons (.for_ (.nm 4) (.xY (.b1 .len (.var 1))) NT) (.cons (.ret (.var 2)) .nil))))
def ZF:jU:=⟨2,6,ZM,false⟩
def zA:List Str:=["_law_leads","_law_spots","_law_order","_law_anew","_law_k","_law_names_here","_law_name","_law_target","_law_one"]
def Bh:Cs:=
 (.cons (.uH (.var 3) (.idx (.var 2) (.var 4)) (.bin .Add (.var 4) (.cst (.int 1)))) .nil)
def Aq:F:=
 (.comp [6] (.tup (.cons (.var 6) (.cons (.idx (.var 3) (.idx (.var 0) (.var 6))) .nil))) (.nm 6) (.sq (.inl (.XR (.var 0)))) .nil)
def Kc:F:=
 (.comp [7] (.idx (.var 3) (.var 7)) (.nm 7) (.sq (.idx (.idx (.var 1) (.var 8)) (.cst (.int 1)))) .nil)
def Bj:F:=
 (.comp [8] (.tup (.cons (.idx (.idx (.var 1) (.var 8)) (.cst (.int 0))) (.cons (.b1 .tuple (.inl Kc)) .nil))) (.nm 8) (.sq (.var 2)) .nil)
def Pg:Cs:=
 (.cons (.asg (.nm 2) (.call "_law_met" (.cons (.var 0) (.cons (.var 1) .nil)))) (.cons (.asg (.nm 3) (.CG (.xR [Sum.inl 0] (.cons (.cst (.int 0)) .nil)))) (.cons (.uH (.var 3) (.bin .Sub (.cst (.int 0)) (.cst (.int 1))) (.bin .Sub (.cst (.int 0)) (.cst (.int 1)))) (.cons (.for_ (.nm 4) (.xY (.b1 .len (.var 2))) Bh) (.cons (.asg (.nm 5) (.inl Aq)) (.cons (.ret (.tup (.cons (.var 5) (.cons (.inl Bj) .nil)))) .nil))))))
def Qx:jU:=⟨2,9,Pg,false⟩
def adM:List Str:=["_law_web"]
abbrev Wo:Cs:=
 (.cons (.ite (.pY (.isC "Web" (.var 0))) (.cons (.ret (.cst .non)) .nil) .nil) (.cons (.ret (.tup (.cons (.Zi "Web" "name_rows" (.var 0) .nil) (.cons (.Zi "Web" "item_rows" (.var 0) .nil) .nil)))) .nil))
def Va:jU:=⟨1,1,Wo,false⟩
def aer:List Str:=["_law_target"]
def Vz:Cs:=
 (.cons (.ret (.ite (.cmp .Eq (.var 0) (.cst (.int 0))) (.cst (.str "-")) (.ite (.cmp .Lt (.var 0) (.cst (.int 0))) (.cst (.str "*")) (.b1 .str (.var 0))))) .nil)
def Xm:jU:=⟨1,1,Vz,false⟩
def Oc:List Str:=["_law_raw_here","_law_words","_law_name","_law_target","_law_k","_law_word","_law_targets","_law_one"]
def FW:F:=
 (.comp [2,3] (.bin .Add (.bin .Add (.var 2) (.cst (.str "="))) (.call "_law_mark" (.cons (.var 3) .nil))) (.tp (.cons (.nm 2) (.cons (.nm 3) .nil))) (.sq (.idx (.var 0) (.cst (.int 0)))) .nil)
def GX:F:=
 (.comp [7] (.call "_law_mark" (.cons (.var 7) .nil)) (.nm 7) (.sq (.var 6)) .nil)
def Gh:Cs:=
 (.cons (.asg (.tp (.cons (.nm 5) (.cons (.nm 6) .nil))) (.idx (.idx (.var 0) (.cst (.int 1))) (.var 4))) (.cons (.ex (.mut .append (.var 1) (.cons (.bin .Add (.bin .Add (.bin .Add (.bin .Add (.bin .Add (.b1 .str (.bin .Add (.var 4) (.cst (.int 1)))) (.cst (.str ":"))) (.var 5)) (.cst (.str "("))) (.tm .join (.cst (.str ",")) (.inl GX))) (.cst (.str ")"))) .nil))) .nil))
def WW:Cs:=
 (.cons (.asg (.nm 1) (.CG FW)) (.cons (.for_ (.nm 4) (.xY (.b1 .len (.idx (.var 0) (.cst (.int 1))))) Gh) (.cons (.ret (.ite (.cmp .NotEq (.var 1) (.inl (.lst .nil))) (.tm .join (.cst (.str " ")) (.var 1)) (.cst (.str "empty")))) .nil)))
def Xl:jU:=⟨1,8,WW,false⟩
def agd:List Str:=["_law_script","_law_k","_law_words","_law_most","_law_many","_law_size","_law_lean","_law_turning","_law_names_here","_law_spots","_law_j","_law_word","_law_left","_law_right","_law_far","_law_name","_law_places","_law_targets","_law_leads","_law_one","_law_gone"]
def CQ:Cs:=
 (.cons (.asg (.tp (.cons (.nm 11) (.cons (.nm 12) (.cons (.nm 13) (.cons (.nm 14) .nil))))) (.call "_law_digits" (.cons (.var 0) (.cons (.bin .Add (.bin .Add (.var 1) (.cst (.int 2))) (.var 10)) (.cons (.inl (.lst (.cons (.bin .Add (.b1 .len (.var 2)) (.cst (.int 2))) (.cons (.cst (.int 60)) (.cons (.cst (.int 60)) (.cons (.cst (.int 12)) .nil)))))) .nil))))) (.cons (.asg (.tp (.cons (.nm 15) (.cons (.nm 16) .nil))) (.ite (.cmp .Lt (.var 11) (.b1 .len (.var 2))) (.idx (.var 2) (.var 11)) (.tup (.cons (.cst (.str "cell")) (.cons (.cst (.int 2)) .nil))))) (.cons (.asg (.nm 17) (.CG (.lst (.cons (.bin .Mod (.var 12) (.bin .Add (.var 5) (.cst (.int 1)))) (.cons (.bin .Mod (.var 13) (.bin .Add (.var 5) (.cst (.int 1)))) .nil))))) (.cons (.ite (.cmp .Eq (.var 14) (.cst (.int 0))) (.cons (.uH (.var 17) (.bin .Mod (.var 12) (.cst (.int 2))) (.bin .Sub (.cst (.int 0)) (.cst (.int 1)))) .nil) .nil) (.cons (.ite (.band (.cmp .Gt (.var 14) (.cst (.int 5))) (.cmp .Gt (.var 6) (.cst (.int 0)))) (.cons (.uH (.var 17) (.bin .Mod (.var 13) (.cst (.int 2))) (.mn (.var 5) (.bin .Add (.var 10) (.cst (.int 2))))) .nil) .nil) (.cons (.uH (.var 9) (.bin .Add (.var 10) (.cst (.int 1))) (.tup (.cons (.var 15) (.cons (.b1 .tuple (.inl (.slc (.var 17) .none (.some (.var 16))))) .nil)))) .nil))))))
def Dc:Cs:=
 (.cons (.asg (.tp (.cons (.nm 19) (.cons (.nm 20) .nil))) (.call "_law_digits" (.cons (.var 0) (.cons (.bin .Add (.bin .Add (.var 1) (.cst (.int 3))) (.var 10)) (.cons (.inl (.lst (.cons (.cst (.int 90)) (.cons (.cst (.int 9)) .nil)))) .nil))))) (.cons (.uH (.var 18) (.idx (.var 8) (.var 10)) (.ite (.cmp .Eq (.var 20) (.cst (.int 0))) (.bin .Sub (.cst (.int 0)) (.cst (.int 1))) (.bin .Mod (.bin .Add (.var 19) (.bin .Mult (.var 7) (.var 10))) (.bin .Add (.var 5) (.cst (.int 1)))))) .nil))
def Z4:Cs:=
 (.cons (.asg (.tp (.cons (.nm 4) (.cons (.nm 5) (.cons (.nm 6) (.cons (.nm 7) .nil))))) (.call "_law_digits" (.cons (.var 0) (.cons (.var 1) (.cons (.inl (.lst (.cons (.cst (.int 5)) (.cons (.bin .Add (.var 3) (.cst (.int 1))) (.cons (.cst (.int 4)) (.cons (.cst (.int 97)) .nil)))))) .nil))))) (.cons (.asg (.nm 8) (.call "_law_names" (.cons (.var 0) (.cons (.bin .Add (.var 1) (.cst (.int 1))) (.cons (.bin .Add (.cst (.int 1)) (.var 4)) .nil))))) (.cons (.asg (.nm 9) (.CG (.xR [] .nil))) (.cons (.for_ (.nm 10) (.xY (.var 5)) CQ) (.cons (.asg (.nm 18) (.CG (.xR [] .nil))) (.cons (.for_ (.nm 10) (.xY (.b1 .len (.var 8))) Dc) (.cons (.ite (.band (.cmp .Gt (.var 5) (.cst (.int 0))) (.cmp .Lt (.var 6) (.cst (.int 3)))) (.cons (.uH (.var 18) (.idx (.var 8) (.cst (.int 0))) (.cst (.int 1))) .nil) .nil) (.cons (.ret (.call "_law_canon" (.cons (.var 18) (.cons (.var 9) .nil)))) .nil))))))))
def ab9:jU:=⟨4,21,Z4,false⟩
def YM:List Str:=["_law_script","_law_k","_law_text_here","_law_how","_law_place","_law_sign","_law_at","_law_marks","_law_words"]
abbrev Be:Cs:=
 (.cons (.asg (.tp (.cons (.nm 3) (.cons (.nm 4) (.cons (.nm 5) .nil)))) (.call "_law_digits" (.cons (.var 0) (.cons (.var 1) (.cons (.inl (.lst (.cons (.cst (.int 8)) (.cons (.cst (.int 997)) (.cons (.cst (.int 14)) .nil))))) .nil))))) (.cons (.asg (.nm 6) (.bin .Mod (.var 4) (.bin .Add (.b1 .len (.var 2)) (.cst (.int 1))))) (.cons (.asg (.nm 7) (.cst (.str "0123 =:()-*,a"))) (.cons (.ite (.cmp .Eq (.var 3) (.cst (.int 0))) (.cons (.ret (.bin .Add (.bin .Add (.Cz (.var 2) .none (.some (.var 6))) (.idx (.var 7) (.bin .Mod (.var 5) (.cst (.int 13))))) (.Cz (.var 2) (.some (.var 6)) .none))) .nil) .nil) (.cons (.ite (.cmp .Eq (.var 3) (.cst (.int 1))) (.cons (.ret (.bin .Add (.bin .Add (.Cz (.var 2) .none (.some (.var 6))) (.idx (.var 7) (.bin .Mod (.var 5) (.cst (.int 13))))) (.Cz (.var 2) (.some (.bin .Add (.var 6) (.cst (.int 1)))) .none))) .nil) .nil) (.cons (.ite (.cmp .Eq (.var 3) (.cst (.int 2))) (.cons (.ret (.bin .Add (.Cz (.var 2) .none (.some (.var 6))) (.Cz (.var 2) (.some (.bin .Add (.var 6) (.cst (.int 1)))) .none))) .nil) .nil) (.cons (.ite (.cmp .Eq (.var 3) (.cst (.int 3))) (.cons (.ret (.replL (.var 2) "1" "2" "01" "11" "-" (.bin .Mod (.var 5) (.cst (.int 4))))) .nil) .nil) (.cons (.ite (.cmp .Eq (.var 3) (.cst (.int 4))) (.cons (.asg (.nm 8) (.inl (.split (.var 2) (.cst (.str " "))))) (.cons (.ret (.tm .join (.cst (.str " ")) (.inl (.rev (.var 8))))) .nil)) .nil) (.cons (.ret (.idx (.inl (.lst (.cons (.var 2) (.cons (.bin .Add (.var 2) (.cst (.str " "))) (.cons (.bin .Add (.cst (.str " ")) (.var 2)) (.cons (.cst (.str "")) (.cons (.cst (.str "empty ")) (.cons (.bin .Add (.var 2) (.cst (.str "\n"))) (.cons (.Wy (.var 2) " " "  ") .nil))))))))) (.bin .Mod (.var 5) (.cst (.int 7))))) .nil)))))))))
def Ab:jU:=⟨3,9,Be,false⟩
def abo:List Str:=["_law_text_here","_law_word","_law_found","_law_e"]
abbrev zJ:Cs:=
 (.cons (.asg (.nm 2) (.call "read_web" (.cons (.var 0) .nil))) .nil)
abbrev Jm:Cs:=
 (.cons (.asg (.nm 1) (.call "_law_kin" (.cons (.var 3) .nil))) .nil)
abbrev FQ:Cs:=
 (.cons (.asg (.tp (.cons (.nm 1) (.cons (.nm 2) .nil))) (.tup (.cons (.cst (.str "")) (.cons (.cst .non) .nil)))) (.cons (.try_ zJ "BadText" 3 Jm) (.cons (.ret (.tup (.cons (.var 1) (.cons (.var 2) .nil)))) .nil)))
def Qa:jU:=⟨1,4,FQ,false⟩
def ajI:List Str:=["_law_script","_law_k","_law_raw_here","_law_text_here","_law_word","_law_found","_law_spoilt_here"]
abbrev Mg:Cs:=
 (.cons (.asg (.nm 2) (.call "_law_raw" (.cons (.var 0) (.cons (.bin .Mult (.cst (.int 12)) (.var 1)) (.cons (.inl (.lst (.cons (.tup (.cons (.cst (.str "list")) (.cons (.cst (.int 0)) .nil))) (.cons (.tup (.cons (.cst (.str "seg")) (.cons (.cst (.int 1)) .nil))) (.cons (.tup (.cons (.cst (.str "dl")) (.cons (.cst (.int 2)) .nil))) .nil))))) (.cons (.cst (.int 13)) .nil)))))) (.cons (.asg (.nm 3) (.call "_law_text" (.cons (.var 2) .nil))) (.cons (.asg (.tp (.cons (.nm 4) (.cons (.nm 5) .nil))) (.call "_law_reads" (.cons (.var 3) .nil))) (.cons (.ite (.bor (.cmp .NotEq (.var 4) (.cst (.str ""))) (.pY (.call "_law_same" (.cons (.call "_law_told" (.cons (.var 5) .nil)) (.cons (.var 2) .nil))))) (.cons (.ret (.cst (.bl false))) .nil) .nil) (.cons (.asg (.nm 6) (.call "_law_spoilt" (.cons (.var 0) (.cons (.bin .Add (.bin .Mult (.cst (.int 12)) (.var 1)) (.cst (.int 11))) (.cons (.var 3) .nil))))) (.cons (.asg (.tp (.cons (.nm 4) (.cons (.nm 5) .nil))) (.call "_law_reads" (.cons (.var 6) .nil))) (.cons (.ite (.cmp .Eq (.var 4) (.cst (.str ""))) (.cons (.ite (.bor (.pY (.isC "Web" (.var 5))) (.pY (.call "_law_same" (.cons (.K7 "Web" (.var 5)) (.cons (.var 6) .nil))))) (.cons (.ret (.cst (.bl false))) .nil) .nil) (.cons (.ite (.pY (.call "_law_same" (.cons (.call "_law_text" (.cons (.tup (.cons (.Zi "Web" "name_rows" (.var 5) .nil) (.cons (.Zi "Web" "item_rows" (.var 5) .nil) .nil))) .nil)) (.cons (.var 6) .nil)))) (.cons (.ret (.cst (.bl false))) .nil) .nil) .nil)) (.cons (.ite (.bor (.cmp .NotEq (.var 4) (.cst (.str "BadText"))) (.cmp .Eq (.var 6) (.var 3))) (.cons (.ret (.cst (.bl false))) .nil) .nil) .nil)) .nil)))))))
abbrev Vw:Cs:=
 (.cons (.for_ (.nm 1) (.xY (.cst (.int 5))) Mg) (.cons (.ret (.oeq "Web" false (.idx (.call "_law_reads" (.cons (.cst (.str "empty")) .nil)) (.cst (.int 1))) (.inl (.new "Web" (.cons (.cst (.tup [])) (.cons (.cst (.tup [])) .nil)))))) .nil))
def ajQ:jU:=⟨1,7,Vw,false⟩
def dfn:Str→Option jU:=afo (dl "is_word" Bl<| dl "need_names" yJ<| dl "is_item" JV<| dl "met_from" Hz<| dl (dot "Web" "__init__") qM<| dl (dot "Web" "__eq__") Hw<| dl (dot "Web" "__repr__") xU<| dl (dot "Web" "name_rows") su<| dl (dot "Web" "item_rows") sE<| dl "mark" aaH<| dl "web_text" Ds<| dl "read_mark" uF<| dl "read_item" lG<| dl "read_web" wH<| dl "_law_cell" Vv<| dl "_law_digits" JQ<| dl "_law_same" W6<| dl "_law_kin" Uu<| dl "_law_names" Ph<| dl "_law_met" ZF<| dl "_law_canon" Qx<| dl "_law_told" Va<| dl "_law_mark" Xm<| dl "_law_text" Xl<| dl "_law_raw" ab9<| dl "_law_spoilt" Ab<| dl "_law_reads" Qa<| dl "law" ajQ [])
def X4:List Str:=["self","name"]
def Zf:List Str:=["self","place"]
def kdf (q:Str):Option (List (Str × Vl)):=none
def AS:List Str:=["BadItem","BadLoftName","BadName","BadPage","BadPoints","BadRow","BadRule","BadText","BadWeb","Full","Groundless","IndexError","KeyError","LookupError","Missing","NoName","NoNumber","NoProgram","NoRow","NoShape","Nothing","OsierError","Shut","Taken","ValueError"]
def XT:List (Str × List Str):=[("BadName",["BadName","OsierError","ValueError"]),("BadWeb",["BadWeb","OsierError","ValueError"]),("BadText",["BadText","OsierError","ValueError"])]
def XF:List (Str × Option Str):=[("BadName",some "name"),("BadWeb",some "place"),("BadText",none)]
abbrev X8:Str→Str→Option Bool:=subT AS XT
abbrev xif:Str→Option (Option Str):=yS XF
noncomputable abbrev Mn (n:Nat):aF:=mach kdf dfn 1000 X8 xif n
theorem oF (n:Nat):(Mn n).xi ("BadName":Str)=some (some ("name":Str)):=by rw [Lr];kernel_rfl
theorem eG (n:Nat):(Mn n).xi ("BadWeb":Str)=some (some ("place":Str)):=by rw [Lr];kernel_rfl
theorem ig (n:Nat):(Mn n).xi ("BadText":Str)=some none:=by rw [Lr];kernel_rfl
abbrev UT (k:Str) (d:jU):Prop:=∀ (n:Nat) (xs:List Vl) (S:Hs),(Mn (n+1)).cal k xs S=gK (Mn n) d xs S
theorem Ks:UT ("is_word") Bl:=fun _ xs S=>bH (by kernel_rfl) xs S
theorem qY:UT ("need_names") yJ:=fun _ xs S=>bH (by kernel_rfl) xs S
theorem JM:UT ("is_item") JV:=fun _ xs S=>bH (by kernel_rfl) xs S
theorem Ht:UT ("met_from") Hz:=fun _ xs S=>bH (by kernel_rfl) xs S
theorem qW:UT (dot "Web" "__init__") qM:=fun _ xs S=>bH (by kernel_rfl) xs S
theorem Ei:UT (dot "Web" "__eq__") Hw:=fun _ xs S=>bH (by kernel_rfl) xs S
theorem yI:UT (dot "Web" "__repr__") xU:=fun _ xs S=>bH (by kernel_rfl) xs S
theorem rZ:UT (dot "Web" "name_rows") su:=fun _ xs S=>bH (by kernel_rfl) xs S
theorem sW:UT (dot "Web" "item_rows") sE:=fun _ xs S=>bH (by kernel_rfl) xs S
theorem aaP:UT ("mark") aaH:=fun _ xs S=>bH (by kernel_rfl) xs S
theorem DY:UT ("web_text") Ds:=fun _ xs S=>bH (by kernel_rfl) xs S
theorem Bo:UT ("read_mark") uF:=fun _ xs S=>bH (by kernel_rfl) xs S
theorem Cd:UT ("read_item") lG:=fun _ xs S=>bH (by kernel_rfl) xs S
theorem Hm:UT ("read_web") wH:=fun _ xs S=>bH (by kernel_rfl) xs S
theorem Nf:UT ("_law_cell") Vv:=fun _ xs S=>bH (by kernel_rfl) xs S
theorem z7:UT ("_law_digits") JQ:=fun _ xs S=>bH (by kernel_rfl) xs S
theorem Xg:UT ("_law_same") W6:=fun _ xs S=>bH (by kernel_rfl) xs S
theorem abX:UT ("_law_kin") Uu:=fun _ xs S=>bH (by kernel_rfl) xs S
theorem Py:UT ("_law_names") Ph:=fun _ xs S=>bH (by kernel_rfl) xs S
theorem Zz:UT ("_law_met") ZF:=fun _ xs S=>bH (by kernel_rfl) xs S
theorem Pu:UT ("_law_canon") Qx:=fun _ xs S=>bH (by kernel_rfl) xs S
theorem V3:UT ("_law_told") Va:=fun _ xs S=>bH (by kernel_rfl) xs S
theorem Vj:UT ("_law_mark") Xm:=fun _ xs S=>bH (by kernel_rfl) xs S
theorem VB:UT ("_law_text") Xl:=fun _ xs S=>bH (by kernel_rfl) xs S
theorem aao:UT ("_law_raw") ab9:=fun _ xs S=>bH (by kernel_rfl) xs S
theorem Jk:UT ("_law_spoilt") Ab:=fun _ xs S=>bH (by kernel_rfl) xs S
theorem Ik:UT ("_law_reads") Qa:=fun _ xs S=>bH (by kernel_rfl) xs S
end K04
set_option maxHeartbeats 8000000
namespace K04
open PySem L2 Oz PyProof.Rows
def jB (i:Nat):Stmt:=PySem.Challenge.pw_osier_k04_texts_of_webs_read.main.body.getD i (.Pass ⟨0,0,0,0⟩)
abbrev uW:Stmt:=jB 30
abbrev qN:Stmt:=jB 31
abbrev uZ:Stmt:=jB 32
abbrev xr:Stmt:=jB 33
abbrev bG:Stmt:=inClass (jB 34) 0
theorem Iv:FnScope iy ["self","names","items"] (defScope bG):=⟨rfl,rfl,rfl,by decide+kernel,rfl,by decide+kernel,by decide+kernel⟩
abbrev xm:Stmt:=inClass (jB 34) 1
abbrev rQ:Stmt:=inClass (jB 34) 3
abbrev lY:Stmt:=inClass (jB 34) 4
abbrev lQ:Stmt:=inClass (jB 34) 5
abbrev Tu:Stmt:=jB 35
abbrev nQ:Stmt:=jB 36
abbrev oO:Stmt:=jB 37
abbrev oN:Stmt:=jB 38
abbrev xg:Stmt:=jB 39
abbrev Oo:Stmt:=jB 41
abbrev zY:Stmt:=jB 42
abbrev Mr:Stmt:=jB 43
abbrev nU:Stmt:=jB 44
theorem ad9:FnScope agk ["_law_e"] (defScope nU):=⟨rfl,rfl,rfl,by decide+kernel,rfl,by decide+kernel,by decide+kernel⟩
abbrev pW:Stmt:=jB 45
abbrev Su:Stmt:=jB 46
abbrev qm:Stmt:=jB 47
abbrev N8:Stmt:=jB 48
abbrev MT:Stmt:=jB 49
abbrev za:Stmt:=jB 50
abbrev RL:Stmt:=jB 51
abbrev zX:Stmt:=jB 52
abbrev Ii:Stmt:=jB 53
abbrev tL:Stmt:=jB 54
theorem aaf:FnScope ajI ["_law_script"] (defScope tL):=⟨rfl,rfl,rfl,by decide+kernel,rfl,by decide+kernel,by decide+kernel⟩
abbrev zM:Stmt:=inClass (jB 3) 0
abbrev Cu:Stmt:=inClass (jB 4) 0
structure Fx (w:World) (mg:Str→Option Value) (G:bB) where
 gQ:mg "len"=none
 Q3:mg "all"=none
 yF:mg "tuple"=none
 En:mg "repr"=none
 Qt:mg "str"=none
 aeY:mg "int"=none
 aH:mg "isinstance"=none
 ace:mg "dict"=none
 UL:mg "list"=none
 uD:mg "sorted"=none
 lw:mg "range"=none
 oR:mg "enumerate"=none
 aeR:mg "min"=none
 yq:mg "ValueError"=none
 ww:mg "LookupError"=none
 Ff:mg "KeyError"=none
 zE:mg "IndexError"=none
 Ax:V
 Ao:Value
 JR:mg "FIGURES"=some Ao
 JL:RelV Ax Ao
 KN:∀ ρ H,VR G ρ H (.str "0123456789") Ax
 RB:V
 U4:Value
 ug:mg "GONE"=some U4
 uh:RelV RB U4
 tD:∀ ρ H,VR G ρ H (.int (-1)) RB
 Bc:V
 Ay:Value
 KZ:mg "LETTERS"=some Ay
 Ld:RelV Bc Ay
 J9:∀ ρ H,VR G ρ H (.str "abcdefghijklmnopqrstuvwxyz") Bc
 qR:V
 qZ:Value
 xX:mg "MOST_NAMES"=some qZ
 yu:RelV qR qZ
 yV:∀ ρ H,VR G ρ H (.int 6) qR
 oX:V
 oV:Value
 wC:mg "MOST_POINTS"=some oV
 v7:RelV oX oV
 wg:∀ ρ H,VR G ρ H (.int 200) oX
 Az:V
 Ad:Value
 mY:mg "NOTHING"=some Ad
 mW:RelV Az Ad
 mX:∀ ρ H,VR G ρ H (.int 0) Az
 hA:∀ c,zQ G.K (G.cl c)
 he:G.er=none
 qJ:Addr
 FZ:mg "BadItem"=some (.ref qJ)
 jL:Addr
 tV:mg "BadLoftName"=some (.ref jL)
 nR:Addr
 wY:mg "BadName"=some (.ref nR)
 qw:Addr
 Gj:mg "BadPage"=some (.ref qw)
 mQ:Addr
 yX:mg "BadPoints"=some (.ref mQ)
 vp:Addr
 Kw:mg "BadRow"=some (.ref vp)
 qO:Addr
 Gx:mg "BadRule"=some (.ref qO)
 nY:Addr
 wW:mg "BadText"=some (.ref nY)
 pH:Addr
 Bf:mg "BadWeb"=some (.ref pH)
 CT:Addr
 WQ:mg "Full"=some (.ref CT)
 kJ:Addr
 wj:mg "Groundless"=some (.ref kJ)
 rG:Addr
 Hf:mg "Missing"=some (.ref rG)
 u6:Addr
 KQ:mg "NoName"=some (.ref u6)
 oM:Addr
 BZ:mg "NoNumber"=some (.ref oM)
 mD:Addr
 zr:mg "NoProgram"=some (.ref mD)
 yh:Addr
 O4:mg "NoRow"=some (.ref yh)
 qT:Addr
 Ig:mg "NoShape"=some (.ref qT)
 qU:Addr
 GF:mg "Nothing"=some (.ref qU)
 lB:Addr
 vY:mg "OsierError"=some (.ref lB)
 Dq:Addr
 VM:mg "Shut"=some (.ref Dq)
 yE:Addr
 QX:mg "Taken"=some (.ref yE)
 Gk:∀ n,HX G (Mn n) "BadItem" (.ref qJ)
 tU:∀ n,HX G (Mn n) "BadLoftName" (.ref jL)
 HH:∀ n,HX G (Mn n) "BadName" (.ref nR)
 Ed:∀ n,HX G (Mn n) "BadPage" (.ref qw)
 xQ:∀ n,HX G (Mn n) "BadPoints" (.ref mQ)
 La:∀ n,HX G (Mn n) "BadRow" (.ref vp)
 Ef:∀ n,HX G (Mn n) "BadRule" (.ref qO)
 Hj:∀ n,HX G (Mn n) "BadText" (.ref nY)
 JK:∀ n,HX G (Mn n) "BadWeb" (.ref pH)
 Wr:∀ n,HX G (Mn n) "Full" (.ref CT)
 v4:∀ n,HX G (Mn n) "Groundless" (.ref kJ)
 vQ:∀ n,HX G (Mn n) "IndexError" (.type "IndexError")
 BP:∀ n,HX G (Mn n) "KeyError" (.type "KeyError")
 uM:∀ n,HX G (Mn n) "LookupError" (.type "LookupError")
 Fy:∀ n,HX G (Mn n) "Missing" (.ref rG)
 JD:∀ n,HX G (Mn n) "NoName" (.ref u6)
 Bv:∀ n,HX G (Mn n) "NoNumber" (.ref oM)
 yN:∀ n,HX G (Mn n) "NoProgram" (.ref mD)
 Pn:∀ n,HX G (Mn n) "NoRow" (.ref yh)
 Dr:∀ n,HX G (Mn n) "NoShape" (.ref qT)
 Ft:∀ n,HX G (Mn n) "Nothing" (.ref qU)
 vP:∀ n,HX G (Mn n) "OsierError" (.ref lB)
 Wd:∀ n,HX G (Mn n) "Shut" (.ref Dq)
 Qm:∀ n,HX G (Mn n) "Taken" (.ref yE)
 wA:∀ n,HX G (Mn n) "ValueError" (.type "ValueError")
 FJ:∀ n,HT G (Mn n) "BadName" (.ref nR)
 GZ:∀ n,HT G (Mn n) "BadText" (.ref nY)
 Ky:∀ n,HT G (Mn n) "BadWeb" (.ref pH)
 Ge:∀ P base,aeb P w G.K mg base (G.xl "BadName") "BadName" "name"
 qp:∀ P base,aeb P w G.K mg base (G.xl "BadWeb") "BadWeb" "place"
 jY:agK G.K mg (G.xl "BadText") "BadText"
 vm:∀ c,NoAttr G.K (G.cl c) "leads"
 vK:∀ c,NoAttr G.K (G.cl c) "spots"
 aaa:IsT G.K (.type "dict") true
 nd:∀ c,PySem.W.kitOne G.K (.ref (G.cl c)) (.type "dict")=some false
 Wj:IsT G.K (.ref (G.cl "Web")) false
 Do:PySem.W.kitOne G.K (.ref (G.cl "Web")) (.ref (G.cl "Web"))=some true
 K8:mg "Web"=some (.ref (G.cl "Web"))
 pN:FP G mg "is_word" uW ["text","least","most"]
 jH:FP G mg "need_names" qN ["names"]
 pG:FP G mg "is_item" uZ ["word","targets","many"]
 oE:FP G mg "met_from" xr ["names","items"]
 bO:Addr
 gh:FuncData
 cW:List V
 eV:cW.length=2
 oU:∀ ρ H,au G ρ H [(.tup []),(.tup [])] cW
 mH:FunD G.K "__init__" "Web.__init__" (defArgs bG) (defBody bG) (defScope bG) cW [] bO gh
 jN:PySem.W.findIn G.K (.ref (G.cl "Web")) "__init__"=some (some (.ref bO))
 jM:PySem.W.isFn G.K (.ref bO)=true
 oA:FM G "Web" "__eq__" "Web.__eq__" xm ["self","other"]
 jC:FM G "Web" "__repr__" "Web.__repr__" rQ ["self"]
 fP:FM G "Web" "name_rows" "Web.name_rows" lY ["self"]
 fU:FM G "Web" "item_rows" "Web.item_rows" lQ ["self"]
 HS:FP G mg "mark" Tu ["target"]
 nH:FP G mg "web_text" nQ ["leads","spots"]
 lE:FP G mg "read_mark" oO ["word"]
 lK:FP G mg "read_item" oN ["text"]
 ou:FP G mg "read_web" xg ["text"]
 zp:FP G mg "_law_cell" Oo ["_law_script","_law_k"]
 pX:FP G mg "_law_digits" zY ["_law_script","_law_k","_law_sizes"]
 yQ:FP G mg "_law_same" Mr ["_law_one","_law_other"]
 nO:Addr
 yj:FuncData
 M4:FunD G.K "_law_kin" "_law_kin" (defArgs nU) (defBody nU) (defScope nU) [] [] nO yj
 aaq:mg "_law_kin"=some (.ref nO)
 uO:FP G mg "_law_names" pW ["_law_script","_law_k","_law_many"]
 Gy:FP G mg "_law_met" Su ["_law_leads","_law_spots"]
 uz:FP G mg "_law_canon" qm ["_law_leads","_law_spots"]
 ye:FP G mg "_law_told" N8 ["_law_web"]
 xV:FP G mg "_law_mark" MT ["_law_target"]
 yf:FP G mg "_law_text" za ["_law_raw_here"]
 GJ:FP G mg "_law_raw" RL ["_law_script","_law_k","_law_words","_law_most"]
 qb:FP G mg "_law_spoilt" zX ["_law_script","_law_k","_law_text_here"]
 uJ:FP G mg "_law_reads" Ii ["_law_text_here"]
 v8:Addr
 Mh:FuncData
 abd:FunD G.K "law" "law" (defArgs tL) (defBody tL) (defScope tL) [] [] v8 Mh
 aiM:mg "law"=some (.ref v8)
 DR:PySem.W.makesIn G.K (G.cl "Web")=true
 Fb:PySem.W.keepIn G.K (.ref (G.cl "Web"))=true
 HQ:PySem.W.findIn G.K (.ref (G.cl "Web")) "__ne__"=some (some (.builtin "object.__ne__"))
 SN:∀ T:String,T="list"∨T="str"∨T="tuple"→PySem.W.notFirst G.K (G.cl "Web") (.type T)=true
theorem Fx.hC {w:World} {mg:Str→Option Value} {G:bB} (R:Fx w mg G) (c:Str):Cls G.K (G.cl c):=(R.hA c).cls
structure aj0 (P:Program) (w:World) (mg:Str→Option Value) (base:Heap) (G:bB) (M:aF) (k:Nat):Prop where
 Ow:ab4 P w G.K mg base G M k "Web" "Web" 0 [] [(.tup []),(.tup [])]
 Pb:ab4 P w G.K mg base G M k "Web" "Web" 2 [] []
 aby:aiF P w G.K mg base G M k "_law_kin" "_law_kin" 1
structure All (P:Program) (w:World) (mg:Str→Option Value) (base:Heap) (G:bB) (M:aF) (k:Nat):Prop extends aj0 P w mg base G M k where
 Kf:WD P w mg base G M k "is_word" 3
 Lz:WD P w mg base G M k "need_names" 1
 X6:WD P w mg base G M k "is_item" 3
 T8:WD P w mg base G M k "met_from" 2
 ajc:EqM P w G.K mg base G M k "Web"
 ae6:RpM P w G.K mg base G M k "Web"
 sV:Met P w G.K mg base G M k "Web" "name_rows" 1
 rW:Met P w G.K mg base G M k "Web" "item_rows" 1
 aaJ:tW P w mg base G M k "mark" 1
 RD:tW P w mg base G M k "web_text" 2
 Bu:tW P w mg base G M k "read_mark" 1
 Qu:tW P w mg base G M k "read_item" 1
 R7:tW P w mg base G M k "read_web" 1
 ad6:tW P w mg base G M k "_law_cell" 2
 pQ:tW P w mg base G M k "_law_digits" 3
 Nz:tW P w mg base G M k "_law_same" 2
 aay:tW P w mg base G M k "_law_names" 3
 agv:tW P w mg base G M k "_law_met" 2
 abP:tW P w mg base G M k "_law_canon" 2
 adC:tW P w mg base G M k "_law_told" 1
 U9:tW P w mg base G M k "_law_mark" 1
 Xd:tW P w mg base G M k "_law_text" 1
 aga:tW P w mg base G M k "_law_raw" 4
 YD:tW P w mg base G M k "_law_spoilt" 3
 Fw:tW P w mg base G M k "_law_reads" 1
section
variable {P:Program} {w:World} {mg:Str→Option Value} {base:Heap} {G:bB} {M:aF} {k:Nat}
theorem aaB (R:Fx w mg G) (zg:Qi P w G.K mg base k R.bO R.gh ["self","names","items"] (spI G M 3 (dot "Web" "__init__"))) (ahz:FnX P w G.K mg base G M k R.nO R.yj ["_law_e"] 1 "_law_kin"):aj0 P w mg base G M k where
 Ow:=by
  have Lh:R.cW≠[]:=fun e=>by have:=R.eV;rw [e] at this;simp at this
  obtain ⟨mv,hb⟩:=ajM R.mH Lh 1 0 (ps:=["self","names","items"]) (fun T kV xJ pm an cI ct us its l1 l2=>by
   rw [R.eV] at l2
   match us,its,l1,l2 with
   | [_],[_,_],_,_=>exact ⟨_,rfl,rfl⟩)
  have hl:(R.cW.drop 0).length=2:=by rw [List.length_drop,R.eV]
  exact ⟨R.bO,R.gh,_,mv,R.cW.drop 0,zg,⟨R.DR,R.jN,R.jM,R.Fb⟩,R.K8,hb,fun ρ H=>(R.oU ρ H).drop 0⟩
 Pb:=by
  have Lh:R.cW≠[]:=fun e=>by have:=R.eV;rw [e] at this;simp at this
  obtain ⟨mv,hb⟩:=ajM R.mH Lh 3 2 (ps:=["self","names","items"]) (fun T kV xJ pm an cI ct us its l1 l2=>by
   rw [R.eV] at l2
   match us,its,l1,l2 with
   | [_,_,_],[_,_],_,_=>exact ⟨_,rfl,rfl⟩)
  have hl:(R.cW.drop 2).length=0:=by rw [List.length_drop,R.eV]
  exact ⟨R.bO,R.gh,_,mv,R.cW.drop 2,zg,⟨R.DR,R.jN,R.jM,R.Fb⟩,R.K8,hb,fun ρ H=>(R.oU ρ H).drop 2⟩
 aby:=⟨R.nO,R.yj,_,ahz,R.aaq,R.M4.kp,(aeK R.M4 fun _ _ _ _ _ _ us hl=>match us,hl with | [_],_=>rfl)⟩
end
section
variable {P:Program} {w:World} {mg:Str→Option Value} {base:Heap} {G:bB} {n:Nat}
theorem UG (R:Fx w mg G) (A:All P w mg base G (Mn n) (4* n)):PrQ P w mg base G (4* n+4) (Mn (n+1)) 3 "is_word" "is_word" "is_word" uW ["text","least","most"]:=o1N R.he Ko (Ks n) fun _ _ _ _ _ _ _ _ g1 g3 hp tk=>
 (PSs.ao (bh (pJ (acE g1 (xv 1) (bM g1 .len (by rfl) R.gQ (xv 0)) (xv 2)) (Zy (bM g1 .all (by rfl) R.Q3 (aR (jo (own:=[("sign",3)]) g1 (by decide) (Aa g1 (xv 0)) (blkOk_by (N:=Ko) (sc:=defScope uW) (by decide+kernel)) (fun _ _ _ _ _=>(gn (g1.blk _ _ _ _ _) 3)) (fun _ _ _ _ _=>gD) (fun _ _ _ _ _=>(XQ (g1.blk _ _ _ _ _) .In (xv 3) (Vo R.KZ R.Ld R.J9))))))))) PSs.aO)
theorem Jb (R:Fx w mg G) (A:All P w mg base G (Mn n) (4* n)):PrQ P w mg base G (4* n+4) (Mn (n+1)) 1 "need_names" "need_names" "need_names" qN ["names"]:=o1N R.he Lw (qY n) fun _ _ _ _ _ _ _ _ g1 g3 hp tk=>
 (PSs.ao (aG (iD Og) (gn g1 1)) (PSs.ao (d7 g1 hp (eX g1 (xv 0)) (fB g1 (bj (gn g1 2) (bj (gn g1 3) fD))) (PSs.ao (bL (wZ (kW (tv (cvN g1 A.Kf tk (eQ (xv 2) (eQ aN (eE aN)))))) (qF (mj g1 .In (xv 2) (xv 1)))).pt (PSs.ao (nq g3 tk (R.Ge _ _) (oF n) (xv 2)) PSs.aO) PSs.aO) (PSs.ao (jh g1 uK (xv 1) (xv 2)) PSs.aO))) PSs.aO))
theorem RQ (R:Fx w mg G) (A:All P w mg base G (Mn n) (4* n)):PrQ P w mg base G (4* n+4) (Mn (n+1)) 3 "is_item" "is_item" "is_item" uZ ["word","targets","many"]:=o1N R.he Kv (JM n) fun _ _ _ _ _ _ _ _ g1 g3 hp tk=>
 (PSs.ao (bL (mj g1 .Eq (xv 0) dF) (PSs.ao (aG (XQ g1 .Eq (bM g1 .len (by rfl) R.gQ (xv 1)) aN) (gn g1 3)) PSs.aO) (PSs.ao (aG (pJ (cvN g1 A.Kf tk (eQ (xv 0) (eQ aN (eE aN)))) (Zy (XQ g1 .LtE (bM g1 .len (by rfl) R.gQ (xv 1)) aN))) (gn g1 3)) PSs.aO)) (PSs.ao (bh (pJ (xv 3) (Zy (bM g1 .all (by rfl) R.Q3 (aR (jo (own:=[("target",4)]) g1 (by decide) (eX g1 (xv 1)) (blkOk_by (N:=Kv) (sc:=defScope uZ) (by decide+kernel)) (fun _ _ _ _ _=>(gn (g1.blk _ _ _ _ _) 4)) (fun _ _ _ _ _=>gD) (fun _ _ _ _ _=>(acE (g1.blk _ _ _ _ _) (Vo R.ug R.uh R.tD) (xv 4) (xv 2))))))))) PSs.aO))
theorem Ox (R:Fx w mg G) (A:All P w mg base G (Mn n) (4* n)):PrQ P w mg base G (4* n+4) (Mn (n+1)) 2 "met_from" "met_from" "met_from" xr ["names","items"]:=o1N R.he T7 (Ht n) fun _ _ _ _ _ _ _ _ g1 g3 hp tk=>
 (PSs.ao (aG (iD (dZ gH)) (gn g1 2)) (PSs.ao (aG (iD (Wq g1 (pps_cons (aj9 R.mY R.mW R.mX) uK (pps_cons (aj9 R.ug R.uh R.tD) uK pps_nil)) rfl rfl rfl (by decide) (by decide))) (gn g1 3)) (PSs.ao (d7 g1 hp (eX g1 (aR (Vr g1 (by rfl) R.uD (xv 0)))) (fB g1 (bj (gn g1 4) (bj (gn g1 5) fD))) (PSs.ao (bL (mj g1 .NotIn (xv 5) (xv 3)) (PSs.ao (jh g1 uK (xv 3) (xv 5)) (PSs.ao (fJ (jQ g1 .append (.inl rfl) (xv 2) (eE (xv 5)))) PSs.aO)) PSs.aO) PSs.aO)) (PSs.ao (aG aN (gn g1 6)) (PSs.ao (Yq g1 hp (mj g1 .Lt (xv 6) (bM g1 .len (by rfl) R.gQ (xv 2))) (PSs.ao (aG (ix g1 (xv 1) (aD g1 .Sub (ix g1 (xv 2) (xv 6)) aN)) (fB g1 (bj (gn g1 7) (bj (gn g1 8) fD)))) (PSs.ao (adU g1 (.inl rfl) (i:=6) (by rfl) (by first | exact Or.inl rfl | exact Or.inr rfl) aN) (PSs.ao (d7 g1 hp (eX g1 (xv 8)) (gn g1 5) (PSs.ao (bL (mj g1 .NotIn (xv 5) (xv 3)) (PSs.ao (jh g1 uK (xv 3) (xv 5)) (PSs.ao (fJ (jQ g1 .append (.inl rfl) (xv 2) (eE (xv 5)))) PSs.aO)) PSs.aO) PSs.aO)) PSs.aO)))) (PSs.ao (bh (xv 2)) PSs.aO))))))
theorem Ip (R:Fx w mg G) (A:All P w mg base G (Mn n) (4* n)):Qi P w G.K mg base (4* n+4) R.bO R.gh ["self","names","items"] (spI G (Mn (n+1)) 3 (dot "Web" "__init__")):=by
 refine abe R.he (k:=4* n+3) (d:=qM) R.mH Iv (qW n) rfl rfl fun cI AA outer s H E _ g3 hp tk=> ?_
 have g1:=g3.le (show 4* n+1≤4* n+3 by omega)
 exact (PSs.ao (fJ (cvN g1 A.Lz tk (eE (xv 1)))) (PSs.ao (d7 g1 hp (aex g1 (by rfl) R.oR (eE (xv 2))) (fB g1 (bj (gn g1 3) (bj (fB g1 (bj (gn g1 4) (bj (gn g1 5) fD))) fD))) (PSs.ao (bL (kW (tv (cvN g1 A.X6 tk (eQ (xv 4) (eQ (xv 5) (eE (bM g1 .len (by rfl) R.gQ (xv 2)))))))) (PSs.ao (nq g3 tk (R.qp _ _) (eG n) (xv 3)) PSs.aO) PSs.aO) PSs.aO)) (PSs.ao (bL (kW (tv (bM g1 .all (by rfl) R.Q3 (aR (jo (own:=[("name",6),("target",7)]) g1 (by decide) (eX g1 (xv 1)) (blkOk_by (N:=iy) (sc:=defScope bG) (by decide+kernel)) (fun _ _ _ _ _=>(fB (g1.blk _ _ _ _ _) (bj (gn (g1.blk _ _ _ _ _) 6) (bj (gn (g1.blk _ _ _ _ _) 7) fD)))) (fun _ _ _ _ _=>gD) (fun _ _ _ _ _=>(acE (g1.blk _ _ _ _ _) (Vo R.ug R.uh R.tD) (xv 7) (bM (g1.blk _ _ _ _ _) .len (by rfl) R.gQ (xv 2))))))))) (PSs.ao (nq g3 tk (R.qp _ _) (eG n) (Mv aN)) PSs.aO) PSs.aO) (PSs.ao (bL (wZ (mj g1 .Gt (bM g1 .len (by rfl) R.gQ (xv 1)) (Vo R.xX R.yu R.yV)) (qF (mj g1 .Gt (bM g1 .len (by rfl) R.gQ (xv 2)) (Vo R.wC R.v7 R.wg)))).pt (PSs.ao (nq g3 tk (R.qp _ _) (eG n) acT) PSs.aO) PSs.aO) (PSs.ao (aG (cvN g1 A.T8 tk (eQ (xv 1) (eE (xv 2)))) (gn g1 8)) (PSs.ao (bL (mj g1 .Lt (bM g1 .len (by rfl) R.gQ (xv 8)) (bM g1 .len (by rfl) R.gQ (xv 2))) (PSs.ao (nq g3 tk (R.qp _ _) (eG n) acT) PSs.aO) PSs.aO) (PSs.ao (aG (iD (Qp (own:=[("at",10),("point",11)]) g1 (by decide) (Qh g1 (by decide) (by decide) (by rfl) R.oR (eE (xv 8))) (blkOk_by (N:=iy) (sc:=defScope bG) (by decide+kernel)) (fun _ _ _ _ _=>(fB (g1.blk _ _ _ _ _) (bj (gn (g1.blk _ _ _ _ _) 10) (bj (gn (g1.blk _ _ _ _ _) 11) fD)))) (fun _ _ _ _ _=>gD) (fun _ _ _ _ _=>(xv 11)) (fun _ _ _ _ _=>(xv 10)))) (gn g1 9)) (PSs.ao (Y5 g1 (d8 (eQ (Vo R.mY R.mW R.mX) (eE (Vo R.ug R.uh R.tD)))) (xv 9) (Vo R.mY R.mW R.mX) (xv 9) (Vo R.ug R.uh R.tD)) (PSs.ao (QZ g1 R.hC R.vm (xv 0) (aR (Qp (own:=[("name",6),("target",7)]) g1 (by decide) (eX g1 (aR (Vr g1 (by rfl) R.uD (xv 1)))) (blkOk_by (N:=iy) (sc:=defScope bG) (by decide+kernel)) (fun _ _ _ _ _=>(fB (g1.blk _ _ _ _ _) (bj (gn (g1.blk _ _ _ _ _) 6) (bj (gn (g1.blk _ _ _ _ _) 7) fD)))) (fun _ _ _ _ _=>gD) (fun _ _ _ _ _=>(xv 6)) (fun _ _ _ _ _=>(ix (g1.blk _ _ _ _ _) (xv 9) (xv 7))))) (by rfl)) (PSs.ao (QZ g1 R.hC R.vK (xv 0) (aR (jo (own:=[("point",11)]) g1 (by decide) (eX g1 (xv 8)) (blkOk_by (N:=iy) (sc:=defScope bG) (by decide+kernel)) (fun _ _ _ _ _=>(gn (g1.blk _ _ _ _ _) 11)) (fun _ _ _ _ _=>gD) (fun _ _ _ _ _=>(d8 (eQ (ix (g1.blk _ _ _ _ _) (ix (g1.blk _ _ _ _ _) (xv 2) (aD (g1.blk _ _ _ _ _) .Sub (xv 11) aN)) aN) (eE (bM (g1.blk _ _ _ _ _) .tuple (by rfl) R.yF (aR (jo (own:=[("one",12)]) (g1.blk _ _ _ _ _) (by decide) (eX (g1.blk _ _ _ _ _) (ix (g1.blk _ _ _ _ _) (ix (g1.blk _ _ _ _ _) (xv 2) (aD (g1.blk _ _ _ _ _) .Sub (xv 11) aN)) aN)) (blkOk_by (N:=iy) (sc:=Oz.relS ⟨.function,[(".0",.local),("point",.local),("tuple",.globalImplicit),("anew",.free),("items",.free)],false,false,[]⟩ (defScope bG)) (by decide+kernel)) (fun _ _ _ _ _=>(gn ((g1.blk _ _ _ _ _).blk _ _ _ _ _) 12)) (fun _ _ _ _ _=>gD) (fun _ _ _ _ _=>(ix ((g1.blk _ _ _ _ _).blk _ _ _ _ _) (xv 9) (xv 12)))))))))))) (by rfl)) PSs.aO))))))))))
theorem Qg (R:Fx w mg G) (A:All P w mg base G (Mn n) (4* n)):Pr P w mg base G (4* n+4) (Mn (n+1)) 2 (dot "Web" "__eq__") "__eq__" "Web.__eq__" xm ["self","other"]:=o1 R.he TV (Ei n) fun _ _ _ _ _ _ _ _ g1 g3 hp tk=>
 (PSs.ao (bh (pJ (M6 g1 R.hA R.Wj R.Do (by rfl) R.aH (xv 1) (pe_glob (by rfl) R.K8 rfl)) (pJ (XQ g1 .Eq (oJ g1 R.hC R.vm (xv 0) (by rfl)) (oJ g1 R.hC R.vm (xv 1) (by rfl))) (Zy (XQ g1 .Eq (oJ g1 R.hC R.vK (xv 0) (by rfl)) (oJ g1 R.hC R.vK (xv 1) (by rfl))))))) PSs.aO)
theorem Iw (R:Fx w mg G) (A:All P w mg base G (Mn n) (4* n)):Pr P w mg base G (4* n+4) (Mn (n+1)) 1 (dot "Web" "__repr__") "__repr__" "Web.__repr__" rQ ["self"]:=o1 R.he Mf (yI n) fun _ _ _ _ _ _ _ _ g1 g3 hp tk=>
 (PSs.ao (bh (bM g1 .str (by rfl) R.Qt (cv g1 A.RD tk (eQ (oJ g1 R.hC R.vm (xv 0) (by rfl)) (eE (oJ g1 R.hC R.vK (xv 0) (by rfl))))))) PSs.aO)
theorem Av (R:Fx w mg G) (A:All P w mg base G (Mn n) (4* n)):Pr P w mg base G (4* n+4) (Mn (n+1)) 1 (dot "Web" "name_rows") "name_rows" "Web.name_rows" lY ["self"]:=o1 R.he Cy (rZ n) fun _ _ _ _ _ _ _ _ g1 g3 hp tk=>
 (PSs.ao (QG (ahR g1 (by rfl) R.UL (oJ g1 R.hC R.vm (xv 0) (by rfl)))) PSs.aO)
theorem Bb (R:Fx w mg G) (A:All P w mg base G (Mn n) (4* n)):Pr P w mg base G (4* n+4) (Mn (n+1)) 1 (dot "Web" "item_rows") "item_rows" "Web.item_rows" lQ ["self"]:=o1 R.he Cv (sW n) fun _ _ _ _ _ _ _ _ g1 g3 hp tk=>
 (PSs.ao (QG (afQ g1 (by rfl) R.UL (oJ g1 R.hC R.vK (xv 0) (by rfl)) (by rfl))) PSs.aO)
theorem acZ (R:Fx w mg G) (A:All P w mg base G (Mn n) (4* n)):Pr P w mg base G (4* n+4) (Mn (n+1)) 1 "mark" "mark" "mark" Tu ["target"]:=o1 R.he afJ (aaP n) fun _ _ _ _ _ _ _ _ g1 g3 hp tk=>
 (PSs.ao (bL (mj g1 .Eq (xv 0) (Vo R.mY R.mW R.mX)) (PSs.ao (bh dF) PSs.aO) PSs.aO) (PSs.ao (bh (lD (mj g1 .Eq (xv 0) (Vo R.ug R.uh R.tD)) dF (bM g1 .str (by rfl) R.Qt (xv 0)))) PSs.aO))
theorem Q6 (R:Fx w mg G) (A:All P w mg base G (Mn n) (4* n)):Pr P w mg base G (4* n+4) (Mn (n+1)) 2 "web_text" "web_text" "web_text" nQ ["leads","spots"]:=o1 R.he wX (DY n) fun _ _ _ _ _ _ _ _ g1 g3 hp tk=>
 (PSs.ao (Xw (own:=[("name",3),("target",4)]) g1 (i:=2) (j:=0) (by rfl) (by rfl) (sw_true rfl rfl rfl (by decide+kernel)) (by decide) (by rfl) (by first | exact Or.inl rfl | exact Or.inr (Or.inl rfl) | exact Or.inr (Or.inr rfl)) (by decide) (by decide) (blkOk_by (N:=wX) (sc:=defScope nQ) (by decide+kernel)) (fun _ _ _ _ _=>(fB (g1.blk _ _ _ _ _) (bj (gn (g1.blk _ _ _ _ _) 3) (bj (gn (g1.blk _ _ _ _ _) 4) fD)))) (fun _ _ _ _ _=>gD) (fun _ _ _ _ _=>(aaF (PF.fmt (xv 3) (PF.cst (PF.fmt (cv (g1.blk _ _ _ _ _) A.aaJ HY (eE (xv 4))) PF.nil))))) (by rfl) (by rfl) (by intro _;rfl) false) (PSs.ao (d7 g1 hp (Qh g1 (by decide) (by decide) (by rfl) R.oR (eE (xv 1))) (fB g1 (bj (gn g1 5) (bj (fB g1 (bj (gn g1 6) (bj (gn g1 7) fD))) fD))) (PSs.ao (aG (pU g1 dF (aR (jo (own:=[("target",4)]) g1 (by decide) (eX g1 (xv 7)) (blkOk_by (N:=wX) (sc:=defScope nQ) (by decide+kernel)) (fun _ _ _ _ _=>(gn (g1.blk _ _ _ _ _) 4)) (fun _ _ _ _ _=>gD) (fun _ _ _ _ _=>(cv (g1.blk _ _ _ _ _) A.aaJ HY (eE (xv 4))))))) (gn g1 8)) (PSs.ao (fJ (jQ g1 .append (.inl rfl) (xv 2) (eE (aaF (PF.fmt (xv 5) (PF.cst (PF.fmt (xv 6) (PF.cst (PF.fmt (xv 8) (PF.cst PF.nil)))))))))) PSs.aO))) (PSs.ao (bh (lD (mj g1 .Gt (bM g1 .len (by rfl) R.gQ (xv 2)) aN) (pU g1 dF (xv 2)) dF)) PSs.aO)))
theorem Ly (R:Fx w mg G) (A:All P w mg base G (Mn n) (4* n)):Pr P w mg base G (4* n+4) (Mn (n+1)) 1 "read_mark" "read_mark" "read_mark" oO ["word"]:=o1 R.he BR (Bo n) fun _ _ _ _ _ _ _ _ g1 g3 hp tk=>
 (PSs.ao (bL (mj g1 .Eq (xv 0) dF) (PSs.ao (bh (Vo R.mY R.mW R.mX)) PSs.aO) PSs.aO) (PSs.ao (bL (mj g1 .Eq (xv 0) dF) (PSs.ao (bh (Vo R.ug R.uh R.tD)) PSs.aO) PSs.aO) (PSs.ao (bL (wZ (kW (alO g1 aN (bM g1 .len (by rfl) R.gQ (xv 0)) aN)) (qF (kW (tv (bM g1 .all (by rfl) R.Q3 (aR (jo (own:=[("sign",1)]) g1 (by decide) (Aa g1 (xv 0)) (blkOk_by (N:=BR) (sc:=defScope oO) (by decide+kernel)) (fun _ _ _ _ _=>(gn (g1.blk _ _ _ _ _) 1)) (fun _ _ _ _ _=>gD) (fun _ _ _ _ _=>(XQ (g1.blk _ _ _ _ _) .In (xv 1) (Vo R.JR R.JL R.KN)))))))))).pt (PSs.ao (vC g1 tk R.jY (ig n)) PSs.aO) PSs.aO) (PSs.ao (bh (bM g1 .int (by rfl) R.aeY (xv 0))) PSs.aO))))
theorem MN (R:Fx w mg G) (A:All P w mg base G (Mn n) (4* n)):Pr P w mg base G (4* n+4) (Mn (n+1)) 1 "read_item" "read_item" "read_item" oN ["text"]:=o1 R.he Cg (Cd n) fun _ _ _ _ _ _ _ _ g1 g3 hp tk=>
 (PSs.ao (aG (DQ g1 (xv 0) dF) (fB g1 (bj (gn g1 1) (bj (gn g1 2) (bj (gn g1 3) fD))))) (PSs.ao (bL (wZ (mj g1 .Eq (xv 2) dF) (qF (mj g1 .NotEq (j9 g1 (xv 3) (gU (Mv aN)) gR) dF))).pt (PSs.ao (vC g1 tk R.jY (ig n)) PSs.aO) PSs.aO) (PSs.ao (aG (j9 g1 (xv 3) gR (gU (Mv aN))) (gn g1 4)) (PSs.ao (bh (d8 (eQ (xv 1) (eE (lD (mj g1 .NotEq (xv 4) dF) (bM g1 .tuple (by rfl) R.yF (aR (aa2 (own:=[("one",5)]) g1 tk (by decide) (eX g1 (aR (u9 (xv 4) dF))) (blkOk_by (N:=Cg) (sc:=defScope oN) (by decide+kernel)) (fun _ _ _ _ _=>(gn (g1.blk _ _ _ _ _) 5)) (fun _ _ _ _ _ _ tc=>(cvC (g1.IW _ _ _ _ _ _) A.Bu tc (eE (xv 5))))))) (d8 gH)))))) PSs.aO))))
theorem QD (R:Fx w mg G) (A:All P w mg base G (Mn n) (4* n)):Pr P w mg base G (4* n+4) (Mn (n+1)) 1 "read_web" "read_web" "read_web" xg ["text"]:=o1 R.he Tz (Hm n) fun _ _ _ _ _ _ _ _ g1 g3 hp tk=>
 (PSs.ao (ade (i:=1) (j:=2) g1 (by rfl) (by rfl) (by decide) (by rfl) (by rfl) (eQ (iD (dZ gH)) (eE (iD (dZ gH)))) (by rfl)) (PSs.ao (d7 g1 hp (eX g1 (lD (mj g1 .Eq (xv 0) dF) (aR (dZ gH)) (aR (u9 (xv 0) dF)))) (gn g1 3) (PSs.ao (aG (DQ g1 (xv 3) dF) (fB g1 (bj (gn g1 4) (bj (gn g1 5) (bj (gn g1 6) fD))))) (PSs.ao (bL (mj g1 .Eq (xv 5) dF) (PSs.ao (fJ (jQ g1 .append (.inl rfl) (xv 1) (eE (d8 (eQ (xv 4) (eE (cv g1 A.Bu tk (eE (xv 6))))))))) PSs.aO) (PSs.ao (aG (DQ g1 (xv 3) dF) (fB g1 (bj (gn g1 7) (bj (gn g1 8) (bj (gn g1 9) fD))))) (PSs.ao (bL (mj g1 .NotEq (xv 8) dF) (PSs.ao (vC g1 tk R.jY (ig n)) PSs.aO) PSs.aO) (PSs.ao (fJ (jQ g1 .append (.inl rfl) (xv 2) (eE (cv g1 A.Qu tk (eE (xv 9)))))) PSs.aO)))) PSs.aO))) (PSs.ao (aax g3 ⟨by rfl,by decide,.inl R.wY⟩ ⟨by rfl,by decide,.inl R.Bf⟩ (L2H.passesAt_of rfl) tk (fun _ _ _ g3 hp tk=>(have g1:=g3.le (show 4* n+1≤4* n+3 by omega);(PSs.ao (aG (aR (nwN g1 A.Pb tk (eQ (xv 1) (eE (xv 2))))) (gn g1 10)) PSs.aO))) (fun _ _ tk hot=>(PSs.ao (RM tk hot R.jY (ig n)) PSs.aO)) (R.FJ n) (R.Ky n)) (PSs.ao (bL (mj g1 .NotEq (rp g1 A.ae6 R.En (xv 10)) (xv 0)) (PSs.ao (vC g1 tk R.jY (ig n)) PSs.aO) PSs.aO) (PSs.ao (bh (xv 10)) PSs.aO)))))
theorem acg (R:Fx w mg G) (A:All P w mg base G (Mn n) (4* n)):Pr P w mg base G (4* n+4) (Mn (n+1)) 2 "_law_cell" "_law_cell" "_law_cell" Oo ["_law_script","_law_k"]:=o1 R.he aep (Nf n) fun _ _ _ _ _ _ _ _ g1 g3 hp tk=>
 (PSs.ao (bL (mj g1 .Lt (xv 1) (bM g1 .len (by rfl) R.gQ (xv 0))) (PSs.ao (bh (ix g1 (xv 0) (xv 1))) PSs.aO) PSs.aO) (PSs.ao (aG aN (gn g1 2)) (PSs.ao (d7 g1 hp (eX g1 (xv 0)) (gn g1 3) (PSs.ao (aG (aD g1 .Mod (aD g1 .Add (aD g1 .Mult (xv 2) aN) (xv 3)) aN) (gn g1 2)) PSs.aO)) (PSs.ao (bh (aD g1 .Mod (aD g1 .Mult (aD g1 .Mult (aD g1 .Add (xv 2) aN) (aD g1 .Add (xv 1) aN)) aN) aN)) PSs.aO))))
theorem SM (R:Fx w mg G) (A:All P w mg base G (Mn n) (4* n)):Pr P w mg base G (4* n+4) (Mn (n+1)) 3 "_law_digits" "_law_digits" "_law_digits" zY ["_law_script","_law_k","_law_sizes"]:=o1 R.he XM (z7 n) fun _ _ _ _ _ _ _ _ g1 g3 hp tk=>
 (PSs.ao (aG (cv g1 A.ad6 tk (eQ (xv 0) (eE (xv 1)))) (gn g1 3)) (PSs.ao (aG (iD (dZ gH)) (gn g1 4)) (PSs.ao (bL (mj g1 .GtE (xv 3) (aD g1 .Pow aN aN)) (PSs.ao (aG (aD g1 .Sub (xv 3) (aD g1 .Pow aN aN)) (gn g1 5)) (PSs.ao (d7 g1 hp (eX g1 (xv 2)) (gn g1 6) (PSs.ao (fJ (jQ g1 .append (.inl rfl) (xv 4) (eE (aD g1 .Mod (xv 5) (xv 6))))) (PSs.ao (aG (aD g1 .FloorDiv (xv 5) (xv 6)) (gn g1 5)) PSs.aO))) (PSs.ao (bh (xv 4)) PSs.aO))) PSs.aO) (PSs.ao (aG (aD g1 .Mod (xv 3) aN) (gn g1 7)) (PSs.ao (d7 g1 hp (jO (by rfl) R.lw (eE (bM g1 .len (by rfl) R.gQ (xv 2)))) (gn g1 8) (PSs.ao (aG (aD g1 .Mod (aD g1 .Add (aD g1 .Mult (xv 7) aN) (aD g1 .Mult aN (aD g1 .Add (xv 8) aN))) aN) (gn g1 7)) (PSs.ao (aG (aD g1 .Mod (aD g1 .Add (aD g1 .Add (aD g1 .Mult (xv 7) (xv 7)) (aD g1 .Mult aN (xv 7))) (xv 8)) aN) (gn g1 9)) (PSs.ao (fJ (jQ g1 .append (.inl rfl) (xv 4) (eE (aD g1 .Mod (aD g1 .FloorDiv (xv 9) aN) (ix g1 (xv 2) (xv 8)))))) PSs.aO)))) (PSs.ao (bh (xv 4)) PSs.aO))))))
theorem aae (R:Fx w mg G) (A:All P w mg base G (Mn n) (4* n)):Pr P w mg base G (4* n+4) (Mn (n+1)) 2 "_law_same" "_law_same" "_law_same" Mr ["_law_one","_law_other"]:=o1 R.he acH (Xg n) fun _ _ _ _ _ _ _ _ g1 g3 hp tk=>
 (PSs.ao (bL (tv (adV g1 R.hA R.aaa R.nd (by rfl) R.aH (xv 1) (pe_bltn (by rfl) R.ace rfl rfl))) (PSs.ao adg PSs.aO) PSs.aO) (PSs.ao (bh (pJ (XQ g1 .Eq (xv 0) (xv 1)) (Zy (XQ g1 .Eq (bM g1 .repr (by rfl) R.En (xv 0)) (bM g1 .repr (by rfl) R.En (xv 1)))))) PSs.aO))
theorem adc (R:Fx w mg G) (A:All P w mg base G (Mn n) (4* n)):FnX P w G.K mg base G (Mn (n+1)) (4* n+4) R.nO R.yj ["_law_e"] 1 "_law_kin":=by
 refine ajy (k:=4* n+3) (d:=Uu) R.M4 ad9 (abX n) rfl rfl fun e cI AA outer s H E p g3 tk=> ?_
 have g1:=g3.le (show 4* n+1≤4* n+3 by omega)
 exact (PSs.ao (aG (aR (dZ (eQ (cJ (u:=.ref R.nR) g1 (R.HH n) (fun _ h=>h) (by rfl) R.aH (xv 0) (pe_glob (by rfl) R.wY rfl)) (eQ (cJ (u:=.ref R.pH) g1 (R.JK n) (fun _ h=>h) (by rfl) R.aH (xv 0) (pe_glob (by rfl) R.Bf rfl)) (eQ (cJ (u:=.ref R.CT) g1 (R.Wr n) (fun _ h=>h) (by rfl) R.aH (xv 0) (pe_glob (by rfl) R.WQ rfl)) (eE (cJ (u:=.ref R.nY) g1 (R.Hj n) (fun _ h=>h) (by rfl) R.aH (xv 0) (pe_glob (by rfl) R.wW rfl)))))))) (gn g1 1)) (PSs.ao (aG (aR (Fp (xv 1) (aR (dZ (eQ (cJ (u:=.ref R.mQ) g1 (R.xQ n) (fun _ h=>h) (by rfl) R.aH (xv 0) (pe_glob (by rfl) R.yX rfl)) (eQ (cJ (u:=.ref R.qO) g1 (R.Ef n) (fun _ h=>h) (by rfl) R.aH (xv 0) (pe_glob (by rfl) R.Gx rfl)) (eE (cJ (u:=.ref R.kJ) g1 (R.v4 n) (fun _ h=>h) (by rfl) R.aH (xv 0) (pe_glob (by rfl) R.wj rfl))))))))) (gn g1 1)) (PSs.ao (aG (aR (Fp (xv 1) (aR (dZ (eQ (cJ (u:=.ref R.qJ) g1 (R.Gk n) (fun _ h=>h) (by rfl) R.aH (xv 0) (pe_glob (by rfl) R.FZ rfl)) (eQ (cJ (u:=.ref R.vp) g1 (R.La n) (fun _ h=>h) (by rfl) R.aH (xv 0) (pe_glob (by rfl) R.Kw rfl)) (eQ (cJ (u:=.ref R.jL) g1 (R.tU n) (fun _ h=>h) (by rfl) R.aH (xv 0) (pe_glob (by rfl) R.tV rfl)) (eE (cJ (u:=.ref R.qw) g1 (R.Ed n) (fun _ h=>h) (by rfl) R.aH (xv 0) (pe_glob (by rfl) R.Gj rfl)))))))))) (gn g1 1)) (PSs.ao (aG (aR (Fp (xv 1) (aR (dZ (eQ (cJ (u:=.ref R.Dq) g1 (R.Wd n) (fun _ h=>h) (by rfl) R.aH (xv 0) (pe_glob (by rfl) R.VM rfl)) (eQ (cJ (u:=.ref R.u6) g1 (R.JD n) (fun _ h=>h) (by rfl) R.aH (xv 0) (pe_glob (by rfl) R.KQ rfl)) (eQ (cJ (u:=.ref R.qT) g1 (R.Dr n) (fun _ h=>h) (by rfl) R.aH (xv 0) (pe_glob (by rfl) R.Ig rfl)) (eE (cJ (u:=.ref R.yh) g1 (R.Pn n) (fun _ h=>h) (by rfl) R.aH (xv 0) (pe_glob (by rfl) R.O4 rfl)))))))))) (gn g1 1)) (PSs.ao (aG (aR (Fp (xv 1) (aR (dZ (eQ (cJ (u:=.ref R.mD) g1 (R.yN n) (fun _ h=>h) (by rfl) R.aH (xv 0) (pe_glob (by rfl) R.zr rfl)) (eQ (cJ (u:=.ref R.oM) g1 (R.Bv n) (fun _ h=>h) (by rfl) R.aH (xv 0) (pe_glob (by rfl) R.BZ rfl)) (eQ (cJ (u:=.ref R.yE) g1 (R.Qm n) (fun _ h=>h) (by rfl) R.aH (xv 0) (pe_glob (by rfl) R.QX rfl)) (eE (cJ (u:=.ref R.qU) g1 (R.Ft n) (fun _ h=>h) (by rfl) R.aH (xv 0) (pe_glob (by rfl) R.GF rfl)))))))))) (gn g1 1)) (PSs.ao (aG dF (gn g1 2)) (PSs.ao (aG (aD g1 .Add (xv 2) dF) (gn g1 2)) (PSs.ao (bL (mj g1 .NotEq (aaw g1 (xv 1) uK) aN) (PSs.ao (bh dF) PSs.aO) PSs.aO) (PSs.ao (aG (aaX g1 (xv 1) uK) (gn g1 3)) (PSs.ao (aG (aR (dZ (eQ (cJ (u:=.ref R.lB) g1 (R.vP n) (fun _ h=>h) (by rfl) R.aH (xv 0) (pe_glob (by rfl) R.vY rfl)) (eQ (cJ (u:=.ref R.rG) g1 (R.Fy n) (fun _ h=>h) (by rfl) R.aH (xv 0) (pe_glob (by rfl) R.Hf rfl)) (eE (cJ (u:=.ty "ValueError") g1 (R.wA n) (fun _ h=>h) (by rfl) R.aH (xv 0) (pe_bltn (by rfl) R.yq rfl rfl))))))) (gn g1 4)) (PSs.ao (aG (aR (Fp (xv 4) (aR (dZ (eQ (cJ (u:=.ty "LookupError") g1 (R.uM n) (fun _ h=>h) (by rfl) R.aH (xv 0) (pe_bltn (by rfl) R.ww rfl rfl)) (eQ (cJ (u:=.ty "KeyError") g1 (R.BP n) (fun _ h=>h) (by rfl) R.aH (xv 0) (pe_bltn (by rfl) R.Ff rfl rfl)) (eE (cJ (u:=.ty "IndexError") g1 (R.vQ n) (fun _ h=>h) (by rfl) R.aH (xv 0) (pe_bltn (by rfl) R.zE rfl rfl))))))))) (gn g1 4)) (PSs.ao (aG (aR (dZ (eQ (XQ g1 .Lt (xv 3) aN) (eQ (acE g1 aN (xv 3) aN) (eQ (XQ g1 .Lt (xv 3) aN) (eQ (XQ g1 .Gt (xv 3) aN) (eQ (XQ g1 .Eq (xv 3) aN) (eE (XQ g1 .Eq (xv 3) aN))))))))) (gn g1 5)) (PSs.ao (bh (lD (mj g1 .Eq (xv 4) (xv 5)) (ix g1 (aR (u9 (xv 2) dF)) (xv 3)) dF)) PSs.aO)))))))))))))
theorem Xv (R:Fx w mg G) (A:All P w mg base G (Mn n) (4* n)):Pr P w mg base G (4* n+4) (Mn (n+1)) 3 "_law_names" "_law_names" "_law_names" pW ["_law_script","_law_k","_law_many"]:=o1 R.he yr (Py n) fun _ _ _ _ _ _ _ _ g1 g3 hp tk=>
 (PSs.ao (aG (d8 (eQ (iD (dZ gH)) (eE dF))) (fB g1 (bj (gn g1 3) (bj (gn g1 4) fD)))) (PSs.ao (d7 g1 hp (jO (by rfl) R.lw (eE (xv 2))) (gn g1 5) (PSs.ao (aG (cv g1 A.pQ tk (eQ (xv 0) (eQ (aD g1 .Add (xv 1) (aD g1 .Mod (xv 5) aN)) (eE (aR (dZ (eQ aN (eQ aN (eQ aN (eE aN)))))))))) (fB g1 (bj (gn g1 6) (bj (gn g1 7) (bj (gn g1 8) (bj (gn g1 9) fD)))))) (PSs.ao (aG (pU g1 dF (aR (jo (own:=[("_law_i",11)]) g1 (by decide) (jO (by rfl) R.lw (eE (xv 8))) (blkOk_by (N:=yr) (sc:=defScope pW) (by decide+kernel)) (fun _ _ _ _ _=>(gn (g1.blk _ _ _ _ _) 11)) (fun _ _ _ _ _=>gD) (fun _ _ _ _ _=>(ix (g1.blk _ _ _ _ _) (xv 4) (aD (g1.blk _ _ _ _ _) .Mod (aD (g1.blk _ _ _ _ _) .Add (aD (g1.blk _ _ _ _ _) .Add (xv 6) (aD (g1.blk _ _ _ _ _) .Mult (xv 11) (xv 7))) (aD (g1.blk _ _ _ _ _) .Mult aN (xv 5))) aN)))))) (gn g1 10)) (PSs.ao (aG (ix g1 (xv 4) (aD g1 .Mod (aD g1 .Add (aD g1 .Add (xv 6) (aD g1 .Mult aN (xv 5))) aN) aN)) (gn g1 12)) (PSs.ao (aG (aD g1 .Add (aD g1 .Add (j9 g1 (xv 10) gR (gU (xv 9))) (xv 12)) (j9 g1 (xv 10) (gU (xv 9)) gR)) (gn g1 13)) (PSs.ao (bL (mj g1 .In (xv 13) (xv 3)) (PSs.ao (Ai (own:=[("_law_tail",15)]) g1 (i:=14) (by rfl) (by rfl) (sw_true rfl rfl rfl (by decide+kernel)) (by decide) (Aa g1 dF) (blkOk_by (N:=yr) (sc:=defScope pW) (by decide+kernel)) (fun _ _ _ _ _=>(gn (g1.blk _ _ _ _ _) 15)) (fun _ _ _ _ _=>gD) (fun _ _ _ _ _=>(aD (g1.blk _ _ _ _ _) .Add (aD (g1.blk _ _ _ _ _) .Add dF (ix (g1.blk _ _ _ _ _) (xv 4) (xv 5))) (xv 15))) (by intro _;rfl) true) (PSs.ao (aG (ix g1 (aR (jo (own:=[("_law_one_more",16)]) g1 (by decide) (eX g1 (xv 14)) (blkOk_by (N:=yr) (sc:=defScope pW) (by decide+kernel)) (fun _ _ _ _ _=>(gn (g1.blk _ _ _ _ _) 16)) (fun _ _ _ _ _=>(ajU (mj (g1.blk _ _ _ _ _) .NotIn (xv 16) (xv 3)))) (fun _ _ _ _ _=>(xv 16)))) aN) (gn g1 13)) PSs.aO)) PSs.aO) (PSs.ao (fJ (jQ g1 .append (.inl rfl) (xv 3) (eE (xv 13)))) PSs.aO))))))) (PSs.ao (bh (xv 3)) PSs.aO)))
theorem adL (R:Fx w mg G) (A:All P w mg base G (Mn n) (4* n)):Pr P w mg base G (4* n+4) (Mn (n+1)) 2 "_law_met" "_law_met" "_law_met" Su ["_law_leads","_law_spots"]:=o1 R.he agO (Zz n) fun _ _ _ _ _ _ _ _ g1 g3 hp tk=>
 (PSs.ao (aG (iD (dZ gH)) (gn g1 2)) (PSs.ao (d7 g1 hp (eX g1 (aR (V2 g1 (by rfl) R.uD (xv 0)))) (gn g1 3) (PSs.ao (bL (Dg (mj g1 .Gt (ix g1 (xv 0) (xv 3)) aN) (yz (mj g1 .NotIn (ix g1 (xv 0) (xv 3)) (xv 2)))).pt (PSs.ao (fJ (jQ g1 .append (.inl rfl) (xv 2) (eE (ix g1 (xv 0) (xv 3))))) PSs.aO) PSs.aO) PSs.aO)) (PSs.ao (d7 g1 hp (jO (by rfl) R.lw (eE (bM g1 .len (by rfl) R.gQ (xv 1)))) (gn g1 4) (PSs.ao (bL (mj g1 .Lt (xv 4) (bM g1 .len (by rfl) R.gQ (xv 2))) (PSs.ao (d7 g1 hp (eX g1 (ix g1 (ix g1 (xv 1) (ix g1 (xv 2) (xv 4))) aN)) (gn g1 5) (PSs.ao (bL (Dg (mj g1 .Gt (xv 5) aN) (yz (mj g1 .NotIn (xv 5) (xv 2)))).pt (PSs.ao (fJ (jQ g1 .append (.inl rfl) (xv 2) (eE (xv 5)))) PSs.aO) PSs.aO) PSs.aO)) PSs.aO) PSs.aO) PSs.aO)) (PSs.ao (bh (xv 2)) PSs.aO))))
theorem Za (R:Fx w mg G) (A:All P w mg base G (Mn n) (4* n)):Pr P w mg base G (4* n+4) (Mn (n+1)) 2 "_law_canon" "_law_canon" "_law_canon" qm ["_law_leads","_law_spots"]:=o1 R.he zA (Pu n) fun _ _ _ _ _ _ _ _ g1 g3 hp tk=>
 (PSs.ao (aG (cv g1 A.agv tk (eQ (xv 0) (eE (xv 1)))) (gn g1 2)) (PSs.ao (aG (iD (Wq g1 (pps_cons pe_int aN pps_nil) rfl rfl rfl (by decide) (by decide))) (gn g1 3)) (PSs.ao (jh g1 (aD g1 .Sub aN aN) (xv 3) (aD g1 .Sub aN aN)) (PSs.ao (d7 g1 hp (jO (by rfl) R.lw (eE (bM g1 .len (by rfl) R.gQ (xv 2)))) (gn g1 4) (PSs.ao (jh g1 (aD g1 .Add (xv 4) aN) (xv 3) (ix g1 (xv 2) (xv 4))) PSs.aO)) (PSs.ao (Ai (own:=[("_law_name",6)]) g1 (i:=5) (by rfl) (by rfl) (sw_true rfl rfl rfl (by decide+kernel)) (by decide) (eX g1 (aR (V2 g1 (by rfl) R.uD (xv 0)))) (blkOk_by (N:=zA) (sc:=defScope qm) (by decide+kernel)) (fun _ _ _ _ _=>(gn (g1.blk _ _ _ _ _) 6)) (fun _ _ _ _ _=>gD) (fun _ _ _ _ _=>(d8 (eQ (xv 6) (eE (ix (g1.blk _ _ _ _ _) (xv 3) (ix (g1.blk _ _ _ _ _) (xv 0) (xv 6))))))) (by intro _;rfl) true) (PSs.ao (bh (d8 (eQ (xv 5) (eE (aR (jo (own:=[("_law_one",8)]) g1 (by decide) (eX g1 (xv 2)) (blkOk_by (N:=zA) (sc:=defScope qm) (by decide+kernel)) (fun _ _ _ _ _=>(gn (g1.blk _ _ _ _ _) 8)) (fun _ _ _ _ _=>gD) (fun _ _ _ _ _=>(d8 (eQ (ix (g1.blk _ _ _ _ _) (ix (g1.blk _ _ _ _ _) (xv 1) (xv 8)) aN) (eE (bM (g1.blk _ _ _ _ _) .tuple (by rfl) R.yF (aR (jo (own:=[("_law_target",7)]) (g1.blk _ _ _ _ _) (by decide) (eX (g1.blk _ _ _ _ _) (ix (g1.blk _ _ _ _ _) (ix (g1.blk _ _ _ _ _) (xv 1) (xv 8)) aN)) (blkOk_by (N:=zA) (sc:=Oz.relS ⟨.function,[(".0",.local),("_law_one",.local),("tuple",.globalImplicit),("_law_anew",.free),("_law_spots",.free)],false,false,[]⟩ (defScope qm)) (by decide+kernel)) (fun _ _ _ _ _=>(gn ((g1.blk _ _ _ _ _).blk _ _ _ _ _) 7)) (fun _ _ _ _ _=>gD) (fun _ _ _ _ _=>(ix ((g1.blk _ _ _ _ _).blk _ _ _ _ _) (xv 3) (xv 7)))))))))))))))) PSs.aO))))))
theorem aa7 (R:Fx w mg G) (A:All P w mg base G (Mn n) (4* n)):Pr P w mg base G (4* n+4) (Mn (n+1)) 1 "_law_told" "_law_told" "_law_told" N8 ["_law_web"]:=o1 R.he adM (V3 n) fun _ _ _ _ _ _ _ _ g1 g3 hp tk=>
 (PSs.ao (bL (kW (tv (M6 g1 R.hA R.Wj R.Do (by rfl) R.aH (xv 0) (pe_glob (by rfl) R.K8 rfl)))) (PSs.ao (bh acT) PSs.aO) PSs.aO) (PSs.ao (bh (d8 (eQ (mv0 g1 A.sV tk (xv 0)) (eE (mv0 g1 A.rW tk (xv 0)))))) PSs.aO))
theorem ab0 (R:Fx w mg G) (A:All P w mg base G (Mn n) (4* n)):Pr P w mg base G (4* n+4) (Mn (n+1)) 1 "_law_mark" "_law_mark" "_law_mark" MT ["_law_target"]:=o1 R.he aer (Vj n) fun _ _ _ _ _ _ _ _ g1 g3 hp tk=>
 (PSs.ao (bh (lD (mj g1 .Eq (xv 0) aN) dF (lD (mj g1 .Lt (xv 0) aN) dF (bM g1 .str (by rfl) R.Qt (xv 0))))) PSs.aO)
theorem abZ (R:Fx w mg G) (A:All P w mg base G (Mn n) (4* n)):Pr P w mg base G (4* n+4) (Mn (n+1)) 1 "_law_text" "_law_text" "_law_text" za ["_law_raw_here"]:=o1 R.he Oc (VB n) fun _ _ _ _ _ _ _ _ g1 g3 hp tk=>
 (PSs.ao (Ai (own:=[("_law_name",2),("_law_target",3)]) g1 (i:=1) (by rfl) (by rfl) (sw_true rfl rfl rfl (by decide+kernel)) (by decide) (eX g1 (ix g1 (xv 0) aN)) (blkOk_by (N:=Oc) (sc:=defScope za) (by decide+kernel)) (fun _ _ _ _ _=>(fB (g1.blk _ _ _ _ _) (bj (gn (g1.blk _ _ _ _ _) 2) (bj (gn (g1.blk _ _ _ _ _) 3) fD)))) (fun _ _ _ _ _=>gD) (fun _ _ _ _ _=>(aD (g1.blk _ _ _ _ _) .Add (aD (g1.blk _ _ _ _ _) .Add (xv 2) dF) (cv (g1.blk _ _ _ _ _) A.U9 HY (eE (xv 3))))) (by intro _;rfl) false) (PSs.ao (d7 g1 hp (jO (by rfl) R.lw (eE (bM g1 .len (by rfl) R.gQ (ix g1 (xv 0) aN)))) (gn g1 4) (PSs.ao (aG (ix g1 (ix g1 (xv 0) aN) (xv 4)) (fB g1 (bj (gn g1 5) (bj (gn g1 6) fD)))) (PSs.ao (fJ (jQ g1 .append (.inl rfl) (xv 1) (eE (aD g1 .Add (aD g1 .Add (aD g1 .Add (aD g1 .Add (aD g1 .Add (bM g1 .str (by rfl) R.Qt (aD g1 .Add (xv 4) aN)) dF) (xv 5)) dF) (pU g1 dF (aR (jo (own:=[("_law_one",7)]) g1 (by decide) (eX g1 (xv 6)) (blkOk_by (N:=Oc) (sc:=defScope za) (by decide+kernel)) (fun _ _ _ _ _=>(gn (g1.blk _ _ _ _ _) 7)) (fun _ _ _ _ _=>gD) (fun _ _ _ _ _=>(cv (g1.blk _ _ _ _ _) A.U9 HY (eE (xv 7)))))))) dF)))) PSs.aO))) (PSs.ao (bh (lD (mj g1 .NotEq (xv 1) (aR (dZ gH))) (pU g1 dF (xv 1)) dF)) PSs.aO)))
theorem aeB (R:Fx w mg G) (A:All P w mg base G (Mn n) (4* n)):Pr P w mg base G (4* n+4) (Mn (n+1)) 4 "_law_raw" "_law_raw" "_law_raw" RL ["_law_script","_law_k","_law_words","_law_most"]:=o1 R.he agd (aao n) fun _ _ _ _ _ _ _ _ g1 g3 hp tk=>
 (PSs.ao (aG (cv g1 A.pQ tk (eQ (xv 0) (eQ (xv 1) (eE (aR (dZ (eQ aN (eQ (aD g1 .Add (xv 3) aN) (eQ aN (eE aN)))))))))) (fB g1 (bj (gn g1 4) (bj (gn g1 5) (bj (gn g1 6) (bj (gn g1 7) fD)))))) (PSs.ao (aG (cv g1 A.aay tk (eQ (xv 0) (eQ (aD g1 .Add (xv 1) aN) (eE (aD g1 .Add aN (xv 4)))))) (gn g1 8)) (PSs.ao (aG (iD Og) (gn g1 9)) (PSs.ao (d7 g1 hp (jO (by rfl) R.lw (eE (xv 5))) (gn g1 10) (PSs.ao (aG (cv g1 A.pQ tk (eQ (xv 0) (eQ (aD g1 .Add (aD g1 .Add (xv 1) aN) (xv 10)) (eE (aR (dZ (eQ (aD g1 .Add (bM g1 .len (by rfl) R.gQ (xv 2)) aN) (eQ aN (eQ aN (eE aN)))))))))) (fB g1 (bj (gn g1 11) (bj (gn g1 12) (bj (gn g1 13) (bj (gn g1 14) fD)))))) (PSs.ao (aG (lD (mj g1 .Lt (xv 11) (bM g1 .len (by rfl) R.gQ (xv 2))) (ix g1 (xv 2) (xv 11)) (d8 (eQ dF (eE aN)))) (fB g1 (bj (gn g1 15) (bj (gn g1 16) fD)))) (PSs.ao (aG (iD (dZ (eQ (aD g1 .Mod (xv 12) (aD g1 .Add (xv 5) aN)) (eE (aD g1 .Mod (xv 13) (aD g1 .Add (xv 5) aN)))))) (gn g1 17)) (PSs.ao (bL (mj g1 .Eq (xv 14) aN) (PSs.ao (jh g1 (aD g1 .Sub aN aN) (xv 17) (aD g1 .Mod (xv 12) aN)) PSs.aO) PSs.aO) (PSs.ao (bL (Dg (mj g1 .Gt (xv 14) aN) (yz (mj g1 .Gt (xv 6) aN))).pt (PSs.ao (jh g1 (ag6 g1 (by rfl) R.aeR (xv 5) (aD g1 .Add (xv 10) aN)) (xv 17) (aD g1 .Mod (xv 13) aN)) PSs.aO) PSs.aO) (PSs.ao (jh g1 (d8 (eQ (xv 15) (eE (bM g1 .tuple (by rfl) R.yF (aR (ahM g1 (xv 17) gR (gU (xv 16)))))))) (xv 9) (aD g1 .Add (xv 10) aN)) PSs.aO))))))) (PSs.ao (aG (iD Og) (gn g1 18)) (PSs.ao (d7 g1 hp (jO (by rfl) R.lw (eE (bM g1 .len (by rfl) R.gQ (xv 8)))) (gn g1 10) (PSs.ao (aG (cv g1 A.pQ tk (eQ (xv 0) (eQ (aD g1 .Add (aD g1 .Add (xv 1) aN) (xv 10)) (eE (aR (dZ (eQ aN (eE aN)))))))) (fB g1 (bj (gn g1 19) (bj (gn g1 20) fD)))) (PSs.ao (jh g1 (lD (mj g1 .Eq (xv 20) aN) (aD g1 .Sub aN aN) (aD g1 .Mod (aD g1 .Add (xv 19) (aD g1 .Mult (xv 7) (xv 10))) (aD g1 .Add (xv 5) aN))) (xv 18) (ix g1 (xv 8) (xv 10))) PSs.aO))) (PSs.ao (bL (Dg (mj g1 .Gt (xv 5) aN) (yz (mj g1 .Lt (xv 6) aN))).pt (PSs.ao (jh g1 aN (xv 18) (ix g1 (xv 8) aN)) PSs.aO) PSs.aO) (PSs.ao (bh (cv g1 A.abP tk (eQ (xv 18) (eE (xv 9))))) PSs.aO))))))))
theorem Ux (R:Fx w mg G) (A:All P w mg base G (Mn n) (4* n)):Pr P w mg base G (4* n+4) (Mn (n+1)) 3 "_law_spoilt" "_law_spoilt" "_law_spoilt" zX ["_law_script","_law_k","_law_text_here"]:=o1 R.he YM (Jk n) fun _ _ _ _ _ _ _ _ g1 g3 hp tk=>
 (PSs.ao (aG (cv g1 A.pQ tk (eQ (xv 0) (eQ (xv 1) (eE (aR (dZ (eQ aN (eQ aN (eE aN))))))))) (fB g1 (bj (gn g1 3) (bj (gn g1 4) (bj (gn g1 5) fD))))) (PSs.ao (aG (aD g1 .Mod (xv 4) (aD g1 .Add (bM g1 .len (by rfl) R.gQ (xv 2)) aN)) (gn g1 6)) (aej g1 (i:=7) (xG (L2.PST.of (bL (mj g1 .Eq (xv 3) aN) (PSs.ao (bh (aD g1 .Add (aD g1 .Add (j9 g1 (xv 2) gR (gU (xv 6))) (ix g1 (xv 7) (aD g1 .Mod (xv 5) aN))) (j9 g1 (xv 2) (gU (xv 6)) gR))) PSs.aO) PSs.aO)) (xG (L2.PST.of (bL (mj g1 .Eq (xv 3) aN) (PSs.ao (bh (aD g1 .Add (aD g1 .Add (j9 g1 (xv 2) gR (gU (xv 6))) (ix g1 (xv 7) (aD g1 .Mod (xv 5) aN))) (j9 g1 (xv 2) (gU (aD g1 .Add (xv 6) aN)) gR))) PSs.aO) PSs.aO)) (xG (L2.PST.of (bL (mj g1 .Eq (xv 3) aN) (PSs.ao (bh (aD g1 .Add (j9 g1 (xv 2) gR (gU (xv 6))) (j9 g1 (xv 2) (gU (aD g1 .Add (xv 6) aN)) gR))) PSs.aO) PSs.aO)) (xG (adA (mj g1 .Eq (xv 3) aN) (xG (QC (Sv (xv 2) (aD g1 .Mod (xv 5) aN) (by intro _ _;rfl))) UJ) UJ) (xG (L2.PST.of (bL (mj g1 .Eq (xv 3) aN) (PSs.ao (aG (aR (u9 (xv 2) dF)) (gn g1 8)) (PSs.ao (bh (pU g1 dF (aR (ahI g1 (xv 8))))) PSs.aO)) PSs.aO)) (xG (QC (aaY g1 (aca (abW (jX (Oz.PET.of (xv 2)) (jX (Oz.PET.of (aD g1 .Add (xv 2) dF)) (jX (Oz.PET.of (aD g1 .Add dF (xv 2))) (jX (Oz.PET.of dF) (jX (Oz.PET.of dF) (jX (Oz.PET.of (aD g1 .Add (xv 2) dF)) (jX (Tt (xv 2)) ZW))))))))) (aD g1 .Mod (xv 5) aN) (by intro _ _;rfl))) UJ)))))))))
theorem Ye (R:Fx w mg G) (A:All P w mg base G (Mn n) (4* n)):Pr P w mg base G (4* n+4) (Mn (n+1)) 1 "_law_reads" "_law_reads" "_law_reads" Ii ["_law_text_here"]:=o1 R.he abo (Ik n) fun _ _ _ _ _ _ _ _ g1 g3 hp tk=>
 (PSs.ao (aG (d8 (eQ dF (eE acT))) (fB g1 (bj (gn g1 1) (bj (gn g1 2) fD)))) (PSs.ao (ac1 (i:=3) g3 (by rfl) (by rfl) ⟨by rfl,by decide,.inl R.wW⟩ tk (fun _ _ _ g3 hp tk=>(have g1:=g3.le (show 4* n+1≤4* n+3 by omega);(PSs.ao (aG (cv g1 A.R7 tk (eE (xv 0))) (gn g1 2)) PSs.aO))) (fun _ _ g3=>(have g1:=g3.le (show 4* n+1≤4* n+3 by omega);(PSs.ao (aG (cvX g1 A.aby HY (eE (xv 3))) (gn g1 1)) PSs.aO))) (R.GZ n)) (PSs.ao (bh (d8 (eQ (xv 1) (eE (xv 2))))) PSs.aO)))
theorem ahC (R:Fx w mg G) (A:All P w mg base G (Mn n) (4* n)) (Uz:∀ ns:List Int,ns.length≤63→∃ T,exec (Mn n) Vw (some (.lst (ns.map .int))::List.replicate 6 none) []=.ret (.val (.bl true)) T):qu P w G.K mg base (4* n+4) R.v8 R.Mh ["_law_script"] (HJ G.K 63):=by
 refine acw R.he (k:=4* n+3) R.abd aaf rfl (fun cI AA outer s H E _ g3 hp tk=> ?_) Uz
 have g1:=g3.le (show 4* n+1≤4* n+3 by omega)
 exact pss_cons (ps_set (i:=0) aaf.nd rfl (by first | exact Or.inl rfl | exact Or.inr rfl) (pe_slice sl_list (pv 0) po_none (po_some pe_int)))
  (PSs.ao (d7 g1 hp (jO (by rfl) R.lw (eE aN)) (gn g1 1) (PSs.ao (aG (cv g1 A.aga tk (eQ (xv 0) (eQ (aD g1 .Mult aN (xv 1)) (eQ (aR (dZ (eQ (d8 (eQ dF (eE aN))) (eQ (d8 (eQ dF (eE aN))) (eE (d8 (eQ dF (eE aN)))))))) (eE aN))))) (gn g1 2)) (PSs.ao (aG (cv g1 A.Xd tk (eE (xv 2))) (gn g1 3)) (PSs.ao (aG (cv g1 A.Fw tk (eE (xv 3))) (fB g1 (bj (gn g1 4) (bj (gn g1 5) fD)))) (PSs.ao (bL (wZ (mj g1 .NotEq (xv 4) dF) (qF (kW (tv (cv g1 A.Nz tk (eQ (cv g1 A.adC tk (eE (xv 5))) (eE (xv 2)))))))).pt (PSs.ao (bh uK) PSs.aO) PSs.aO) (PSs.ao (aG (cv g1 A.YD tk (eQ (xv 0) (eQ (aD g1 .Add (aD g1 .Mult aN (xv 1)) aN) (eE (xv 3))))) (gn g1 6)) (PSs.ao (aG (cv g1 A.Fw tk (eE (xv 6))) (fB g1 (bj (gn g1 4) (bj (gn g1 5) fD)))) (PSs.ao (bL (mj g1 .Eq (xv 4) dF) (PSs.ao (bL (wZ (kW (tv (M6 g1 R.hA R.Wj R.Do (by rfl) R.aH (xv 5) (pe_glob (by rfl) R.K8 rfl)))) (qF (kW (tv (cv g1 A.Nz tk (eQ (rp g1 A.ae6 R.En (xv 5)) (eE (xv 6)))))))).pt (PSs.ao (bh uK) PSs.aO) PSs.aO) (PSs.ao (bL (kW (tv (cv g1 A.Nz tk (eQ (cv g1 A.Xd tk (eE (d8 (eQ (mv0 g1 A.sV tk (xv 5)) (eE (mv0 g1 A.rW tk (xv 5))))))) (eE (xv 6)))))) (PSs.ao (bh uK) PSs.aO) PSs.aO) PSs.aO)) (PSs.ao (bL (wZ (mj g1 .NotEq (xv 4) dF) (qF (mj g1 .Eq (xv 6) (xv 3)))).pt (PSs.ao (bh uK) PSs.aO) PSs.aO) PSs.aO)) PSs.aO)))))))) (PSs.ao (bh (eqv g3 A.ajc (ix g1 (cv g1 A.Fw tk (eE dF)) aN) (aR (nw0 g1 A.Ow.toG tk)))) PSs.aO))
theorem ae8 (R:Fx w mg G):∀ n:Nat,All P w mg base G (Mn n) (4* n)
 | 0=>⟨aaB R (Vh rfl fun _ _=>rfl) (af0 rfl fun _ _=>rfl),cCN R.pN z0N,cCN R.jH z0N,cCN R.pG z0N,cCN R.oE z0N,cE R.hA R.HQ R.SN R.oA z0,cR R.jC z0,cM R.hC R.fP z0,cM R.hC R.fU z0,cC R.HS z0,cC R.nH z0,cC R.lE z0,cC R.lK z0,cC R.ou z0,cC R.zp z0,cC R.pX z0,cC R.yQ z0,cC R.uO z0,cC R.Gy z0,cC R.uz z0,cC R.ye z0,cC R.xV z0,cC R.yf z0,cC R.GJ z0,cC R.qb z0,cC R.uJ z0⟩
 | n+1=>have A:=ae8 R n;⟨aaB R (Ip R A) (adc R A),cCN R.pN (UG R A),cCN R.jH (Jb R A),cCN R.pG (RQ R A),cCN R.oE (Ox R A),cE R.hA R.HQ R.SN R.oA (Qg R A),cR R.jC (Iw R A),cM R.hC R.fP (Av R A),cM R.hC R.fU (Bb R A),cC R.HS (acZ R A),cC R.nH (Q6 R A),cC R.lE (Ly R A),cC R.lK (MN R A),cC R.ou (QD R A),cC R.zp (acg R A),cC R.pX (SM R A),cC R.yQ (aae R A),cC R.uO (Xv R A),cC R.Gy (adL R A),cC R.uz (Za R A),cC R.ye (aa7 R A),cC R.xV (ab0 R A),cC R.yf (abZ R A),cC R.GJ (aeB R A),cC R.qb (Ux R A),cC R.uJ (Ye R A)⟩
end
end K04
namespace K04
open PySem L2 Oz PyProof.Rows
def clA (a0:Addr) (d:Str):Addr:=a0
theorem Dh {P:Addr→Prop} {a0:Addr} (h0:P a0) (d:Str):P (clA a0 d):=by
 unfold clA
 exact h0
theorem ag9 {K:PySem.W.Frag} {C:Addr} {T:String} {b:Bool} (h:PySem.W.kitMeta T=true) (s:PySem.W.subIn K (.ref C) (.type T)=some b):PySem.W.kitOne K (.ref C) (.type T)=some b:=by
 unfold PySem.W.kitOne PySem.W.kitCls
 rw [if_neg (by intro z;cases beq_iff_eq.mp z)]
 dsimp only
 rw [if_pos h];exact s
theorem wL {K:PySem.W.Frag} {C:Addr} {T:String} {b:Bool} (i:PySem.W.isClsIn K C=true) (t:PySem.W.typeIn K (.ref C)=some (.type "type")) (s:PySem.W.subIn K (.type T) (.ref C)=some b):PySem.W.kitOne K (.type T) (.ref C)=some b:=by
 unfold PySem.W.kitOne PySem.W.kitCls
 rw [if_neg (by intro z;cases beq_iff_eq.mp z)]
 dsimp only
 rw [if_pos (by rw [t];unfold PySem.W.isClsIn at i;rw [i];rfl)];exact s
theorem agu {K:PySem.W.Frag} {C:Addr}:PySem.W.kitOne K (.ref C) (.ref C)=some true:=by
 unfold PySem.W.kitOne
 rw [if_pos (beq_self_eq_true _)]
abbrev xcv (fX cX bW gq dR iZ fY bY cZ oY dC fZ iU eY dX lu fW gj dD o5 kY:Addr):Str→Value:=valT [("BadItem",.ref fX),("BadLoftName",.ref cX),("BadName",.ref bW),("BadPage",.ref gq),("BadPoints",.ref dR),("BadRow",.ref iZ),("BadRule",.ref fY),("BadText",.ref bY),("BadWeb",.ref cZ),("Full",.ref oY),("Groundless",.ref dC),("IndexError",.type "IndexError"),("KeyError",.type "KeyError"),("LookupError",.type "LookupError"),("Missing",.ref fZ),("NoName",.ref iU),("NoNumber",.ref eY),("NoProgram",.ref dX),("NoRow",.ref lu),("NoShape",.ref fW),("Nothing",.ref gj),("OsierError",.ref dD),("Shut",.ref o5),("Taken",.ref kY),("ValueError",.type "ValueError")]
abbrev xlf (bW cZ bY:Addr):Str→Addr:=ak6 [("BadName",bW),("BadWeb",cZ),("BadText",bY)]
theorem afT {l:PySem.W.OpenLaw} {w:World} {K:PySem.W.Frag} {h:Heap} {mg:Str→Option Value} {fa:Addr} {dU fX cX bW gq dR iZ fY bY cZ oY dC fZ iU eY dX lu fW gj dD o5 kY bO rJ kZ km nO v8:Addr} {vW Iu wB vU pA vZ Xa ac2 Xe WY Nb Wv abk ahJ aaL Zx Ue Z3:Value} {Ja vR Hl G6 Hu adk Wi agQ acn:Option Addr} {IV Hh GD EY adN ahe:Array (Option Value)} {rR ji jk:Array Value} {Ir wz v9:Nat} {abw:Tok} {xT:Tok} {v5:Tok} {J8:Tok} {Jz:Tok} {JH:Tok} (X:K.In h) (GG:h.Ns mainGlobals mg) (hfa:mg "law"=some (.ref fa))
  (Uz:∀ ns:List Int,ns.length≤63→∃ T,exec (Mn 10) Vw (some (.lst (ns.map .int))::List.replicate 6 none) []=.ret (.val (.bl true)) T)
  (ake:PySem.W.nsIn K mainGlobals "len"=some none)
  (aj6:PySem.W.nsIn K mainGlobals "all"=some none)
  (aen:PySem.W.nsIn K mainGlobals "tuple"=some none)
  (ahO:PySem.W.nsIn K mainGlobals "repr"=some none)
  (aih:PySem.W.nsIn K mainGlobals "str"=some none)
  (aka:PySem.W.nsIn K mainGlobals "int"=some none)
  (Mu:PySem.W.nsIn K mainGlobals "isinstance"=some none)
  (ahx:PySem.W.nsIn K mainGlobals "dict"=some none)
  (agg:PySem.W.nsIn K mainGlobals "list"=some none)
  (aau:PySem.W.nsIn K mainGlobals "sorted"=some none)
  (ad7:PySem.W.nsIn K mainGlobals "range"=some none)
  (Ri:PySem.W.nsIn K mainGlobals "enumerate"=some none)
  (aim:PySem.W.nsIn K mainGlobals "min"=some none)
  (Oh:PySem.W.nsIn K mainGlobals "ValueError"=some none)
  (Im:PySem.W.nsIn K mainGlobals "LookupError"=some none)
  (Ut:PySem.W.nsIn K mainGlobals "KeyError"=some none)
  (LR:PySem.W.nsIn K mainGlobals "IndexError"=some none)
  (XX:PySem.W.nsIn K mainGlobals "FIGURES"=some (some (.str "0123456789" Jz)))
  (agz:PySem.W.nsIn K mainGlobals "GONE"=some (some (.int (-1) abw)))
  (Y9:PySem.W.nsIn K mainGlobals "LETTERS"=some (some (.str "abcdefghijklmnopqrstuvwxyz" JH)))
  (Nr:PySem.W.nsIn K mainGlobals "MOST_NAMES"=some (some (.int (6) xT)))
  (Iz:PySem.W.nsIn K mainGlobals "MOST_POINTS"=some (some (.int (200) v5)))
  (Yt:PySem.W.nsIn K mainGlobals "NOTHING"=some (some (.int (0) J8)))
  (ahi:PySem.W.nsIn K mainGlobals "Web"=some (some (.ref dU)))
  (af7:PySem.W.plainGet K dU Str.empty=true)
  (ahl:PySem.W.hasDictIn K dU=true)
  (ahc:PySem.W.plainOver K dU=true)
  (ahH:PySem.W.findIn K (.ref dU) "__setattr__"=some (some (.builtin "object.__setattr__")))
  (ahN:PySem.W.findIn K (.ref dU) "__class__"=some (some (.builtin "object.__class__")))
  (agP:PySem.W.mroIn K dU (.type "object")=some true)
  (DR:PySem.W.makesIn K dU=true)
  (Fb:PySem.W.keepIn K (.ref dU)=true)
  (wU:PySem.W.isClsIn K dU=true)
  (wM:PySem.W.typeIn K (.ref dU)=some (.type "type"))
  (afW:PySem.W.subIn K (.ref dU) (.type "dict")=some false)
  (HQ:PySem.W.findIn K (.ref dU) "__ne__"=some (some (.builtin "object.__ne__")))
  (adB:PySem.W.notFirst K dU (.type "list")=true)
  (acC:PySem.W.notFirst K dU (.type "str")=true)
  (acS:PySem.W.notFirst K dU (.type "tuple")=true)
  (Gg:PySem.W.subIn K (.type "NoneType") (.ref dU)=some false)
  (UV:PySem.W.subIn K (.type "bool") (.ref dU)=some false)
  (XD:PySem.W.subIn K (.type "int") (.ref dU)=some false)
  (Yy:PySem.W.subIn K (.type "str") (.ref dU)=some false)
  (Rj:PySem.W.subIn K (.type "tuple") (.ref dU)=some false)
  (Td:PySem.W.subIn K (.type "list") (.ref dU)=some false)
  (TF:PySem.W.subIn K (.type "dict") (.ref dU)=some false)
  (PP:PySem.W.findIn K (.ref dU) "leads"=some none)
  (OD:PySem.W.findIn K (.ref dU) "spots"=some none)
  (hn:PySem.W.specialIn K (.builtin "object.__class__") "__get__"=some (some (.builtin "getset_descriptor.__get__")))
  (htk:PySem.W.takesIn K (.builtin "object.__class__")=some true)
  (Tv:PySem.W.nsIn K mainGlobals "BadItem"=some (some (.ref fX)))
  (Ho:PySem.W.nsIn K mainGlobals "BadLoftName"=some (some (.ref cX)))
  (Gm:PySem.W.nsIn K mainGlobals "BadName"=some (some (.ref bW)))
  (T9:PySem.W.nsIn K mainGlobals "BadPage"=some (some (.ref gq)))
  (Ma:PySem.W.nsIn K mainGlobals "BadPoints"=some (some (.ref dR)))
  (Yb:PySem.W.nsIn K mainGlobals "BadRow"=some (some (.ref iZ)))
  (RN:PySem.W.nsIn K mainGlobals "BadRule"=some (some (.ref fY)))
  (Ea:PySem.W.nsIn K mainGlobals "BadText"=some (some (.ref bY)))
  (JZ:PySem.W.nsIn K mainGlobals "BadWeb"=some (some (.ref cZ)))
  (adG:PySem.W.nsIn K mainGlobals "Full"=some (some (.ref oY)))
  (Jc:PySem.W.nsIn K mainGlobals "Groundless"=some (some (.ref dC)))
  (Tr:PySem.W.nsIn K mainGlobals "Missing"=some (some (.ref fZ)))
  (YC:PySem.W.nsIn K mainGlobals "NoName"=some (some (.ref iU)))
  (O2:PySem.W.nsIn K mainGlobals "NoNumber"=some (some (.ref eY)))
  (Mx:PySem.W.nsIn K mainGlobals "NoProgram"=some (some (.ref dX)))
  (aai:PySem.W.nsIn K mainGlobals "NoRow"=some (some (.ref lu)))
  (Ub:PySem.W.nsIn K mainGlobals "NoShape"=some (some (.ref fW)))
  (Th:PySem.W.nsIn K mainGlobals "Nothing"=some (some (.ref gj)))
  (Je:PySem.W.nsIn K mainGlobals "OsierError"=some (some (.ref dD)))
  (adY:PySem.W.nsIn K mainGlobals "Shut"=some (some (.ref o5)))
  (Z5:PySem.W.nsIn K mainGlobals "Taken"=some (some (.ref kY)))
  (xaf:AF K (xcv fX cX bW gq dR iZ fY bY cZ oY dC fZ iU eY dX lu fW gj dD o5 kY) AS)
  (rK:EK K bW)
  (xF:KA K bW (xcv fX cX bW gq dR iZ fY bY cZ oY dC fZ iU eY dX lu fW gj dD o5 kY) ["BadName","OsierError","ValueError"] AS)
  (qG:EI bxV K bW "__init__" "BadName.__init__" "name" zM)
  (vh:EK K cZ)
  (Aj:KA K cZ (xcv fX cX bW gq dR iZ fY bY cZ oY dC fZ iU eY dX lu fW gj dD o5 kY) ["BadWeb","OsierError","ValueError"] AS)
  (vz:EI bxV K cZ "__init__" "BadWeb.__init__" "place" Cu)
  (j8:EK K bY)
  (wD:KA K bY (xcv fX cX bW gq dR iZ fY bY cZ oY dC fZ iU eY dX lu fW gj dD o5 kY) ["BadText","OsierError","ValueError"] AS)
  (xH:PySem.W.excIn K bY [.type "ValueError",.type "Exception",.type "BaseException",.type "object"] "ValueError.__new__"=true)
  (pN:FK K "is_word" uW)
  (jH:FK K "need_names" qN)
  (pG:FK K "is_item" uZ)
  (oE:FK K "met_from" xr)
  (jN:PySem.W.findIn K (.ref dU) "__init__"=some (some (.ref bO)))
  (jM:PySem.W.isFn K (.ref bO)=true)
  (Oq:K.lookup bO=some ⟨Iu,Ja,.func (PySem.W.fnOf "__init__" "Web.__init__" (defArgs bG) (defBody bG) (defScope bG) (.ref rJ) vW wB vU vR pA vZ),IV⟩)
  (IK:K.lookup rJ=some ⟨.type "tuple",Hl,.seq rR Ir,Hh⟩)
  (o7:Vals ([.ref kZ,.ref km]:List V) rR.toList)
  (nW:K.lookup kZ=some ⟨.type "tuple",G6,.seq ji wz,GD⟩)
  (jE:ji.size≤sizeLine∧Vals ([]:List V) ji.toList)
  (nM:K.lookup km=some ⟨.type "tuple",Hu,.seq jk v9,EY⟩)
  (jF:jk.size≤sizeLine∧Vals ([]:List V) jk.toList)
  (Nk:PySem.W.codeIn K pA "Web.__init__"=true)
  (Nt:PySem.W.keepIn K (.ref bO)=true)
  (oA:MK K dU "__eq__" "Web.__eq__" xm)
  (jC:MK K dU "__repr__" "Web.__repr__" rQ)
  (fP:MK K dU "name_rows" "Web.name_rows" lY)
  (fU:MK K dU "item_rows" "Web.item_rows" lQ)
  (HS:FK K "mark" Tu)
  (nH:FK K "web_text" nQ)
  (lE:FK K "read_mark" oO)
  (lK:FK K "read_item" oN)
  (ou:FK K "read_web" xg)
  (zp:FK K "_law_cell" Oo)
  (pX:FK K "_law_digits" zY)
  (yQ:FK K "_law_same" Mr)
  (ahh:PySem.W.nsIn K mainGlobals "_law_kin"=some (some (.ref nO)))
  (ahD:K.lookup nO=some ⟨ac2,adk,.func (PySem.W.fnOf "_law_kin" "_law_kin" (defArgs nU) (defBody nU) (defScope nU) .none Xa Xe WY Wi Nb Wv),adN⟩)
  (agc:PySem.W.codeIn K Nb "_law_kin"=true)
  (ag7:PySem.W.keepIn K (.ref nO)=true)
  (uO:FK K "_law_names" pW)
  (Gy:FK K "_law_met" Su)
  (uz:FK K "_law_canon" qm)
  (ye:FK K "_law_told" N8)
  (xV:FK K "_law_mark" MT)
  (yf:FK K "_law_text" za)
  (GJ:FK K "_law_raw" RL)
  (qb:FK K "_law_spoilt" zX)
  (uJ:FK K "_law_reads" Ii)
  (aeV:PySem.W.nsIn K mainGlobals "law"=some (some (.ref v8)))
  (aiA:K.lookup v8=some ⟨ahJ,agQ,.func (PySem.W.fnOf "law" "law" (defArgs tL) (defBody tL) (defScope tL) .none abk aaL Zx acn Ue Z3),ahe⟩)
  (aiC:PySem.W.codeIn K Ue "law"=true)
  (ai8:PySem.W.keepIn K (.ref v8)=true)
  :∃ fd:FuncData,(∀ (s:Shared) (u:Value),BindsTo s fd ⟨[u],[]⟩ [("_law_script",u)])∧∀ base:Heap,K.In base→base.Ns mainGlobals mg→qu l.prog w K mg base 44 fa fd ["_law_script"] (HJ K 63):=by
 have e:v8=fa:=by
  cases hfa.symm.trans (PySem.W.mg_of X GG aeV)
  rfl
 subst e
 have xal:Ro K (xlf bW cZ bY) (xcv fX cX bW gq dR iZ fY bY cZ oY dC fZ iU eY dX lu fW gj dD o5 kY) AS XT:=⟨⟨rK,xF⟩,⟨⟨vh,Aj⟩,⟨⟨j8,wD⟩,trivial⟩⟩⟩
 have xax:abA K (xlf bW cZ bY) XF:=⟨qG.fd,⟨vz.fd,⟨trivial,trivial⟩⟩⟩
 have Cj:∀ n c,HX ⟨K,clA dU,xlf bW cZ bY,none⟩ (Mn n) c ((xcv fX cX bW gq dR iZ fY bY cZ oY dC fZ iU eY dX lu fW gj dD o5 kY) c):=fun n c=>ajj (AS:=AS) (T:=XT) tX xal xaf hn htk c
 let R:Fx w mg ⟨K,clA dU,xlf bW cZ bY,none⟩:={
  gQ:=PySem.W.mg_none_of X GG ake
  Q3:=PySem.W.mg_none_of X GG aj6
  yF:=PySem.W.mg_none_of X GG aen
  En:=PySem.W.mg_none_of X GG ahO
  Qt:=PySem.W.mg_none_of X GG aih
  aeY:=PySem.W.mg_none_of X GG aka
  aH:=PySem.W.mg_none_of X GG Mu
  ace:=PySem.W.mg_none_of X GG ahx
  UL:=PySem.W.mg_none_of X GG agg
  uD:=PySem.W.mg_none_of X GG aau
  lw:=PySem.W.mg_none_of X GG ad7
  oR:=PySem.W.mg_none_of X GG Ri
  aeR:=PySem.W.mg_none_of X GG aim
  yq:=PySem.W.mg_none_of X GG Oh
  ww:=PySem.W.mg_none_of X GG Im
  Ff:=PySem.W.mg_none_of X GG Ut
  zE:=PySem.W.mg_none_of X GG LR
  Ax:=.str "0123456789"
  Ao:=.str "0123456789" Jz
  JR:=PySem.W.mg_of X GG XX
  JL:=⟨_,rfl⟩
  KN:=fun _ _=>by simp only [VR]
  RB:=.int (-1)
  U4:=.int (-1) abw
  ug:=PySem.W.mg_of X GG agz
  uh:=⟨_,rfl⟩
  tD:=fun _ _=>by simp only [VR]
  Bc:=.str "abcdefghijklmnopqrstuvwxyz"
  Ay:=.str "abcdefghijklmnopqrstuvwxyz" JH
  KZ:=PySem.W.mg_of X GG Y9
  Ld:=⟨_,rfl⟩
  J9:=fun _ _=>by simp only [VR]
  qR:=.int (6)
  qZ:=.int (6) xT
  xX:=PySem.W.mg_of X GG Nr
  yu:=⟨_,rfl⟩
  yV:=fun _ _=>by simp only [VR]
  oX:=.int (200)
  oV:=.int (200) v5
  wC:=PySem.W.mg_of X GG Iz
  v7:=⟨_,rfl⟩
  wg:=fun _ _=>by simp only [VR]
  Az:=.int (0)
  Ad:=.int (0) J8
  mY:=PySem.W.mg_of X GG Yt
  mW:=⟨_,rfl⟩
  mX:=fun _ _=>by simp only [VR]
  hA:=fun c=>Dh (P:=fun x=>zQ K x) (⟨⟨af7,ahl,ahc,ahH⟩,ahN,hn,htk,agP⟩) c
  vm:=fun c=>Dh (P:=fun x=>NoAttr K x "leads") (PP) c
  vK:=fun c=>Dh (P:=fun x=>NoAttr K x "spots") (OD) c
  aaa:=⟨kit_ty (by decide+kernel),kit_ty (by decide+kernel),kit_ty (by decide+kernel),kit_ty (by decide+kernel),kit_ty (by decide+kernel),kit_ty (by decide+kernel),kit_ty (by decide+kernel)⟩
  nd:=fun c=>Dh (P:=fun x=>PySem.W.kitOne K (.ref x) (.type "dict")=some false) (ag9 (by decide+kernel) afW) c
  Wj:=⟨wL wU wM Gg,wL wU wM UV,wL wU wM XD,wL wU wM Yy,wL wU wM Rj,wL wU wM Td,wL wU wM TF⟩
  Do:=agu
  K8:=PySem.W.mg_of X GG ahi
  DR:=DR
  Fb:=Fb
  HQ:=HQ
  SN:=fun T h=>by rcases h with rfl | rfl | rfl;exact adB;exact acC;exact acS
  he:=rfl
  jY:=⟨⟨bxV,U0,xH,PySem.W.mg_of X GG Ea,j8.p,j8.b,j8.t⟩⟩
  qJ:=fX
  FZ:=PySem.W.mg_of X GG Tv
  jL:=cX
  tV:=PySem.W.mg_of X GG Ho
  nR:=bW
  wY:=PySem.W.mg_of X GG Gm
  qw:=gq
  Gj:=PySem.W.mg_of X GG T9
  mQ:=dR
  yX:=PySem.W.mg_of X GG Ma
  vp:=iZ
  Kw:=PySem.W.mg_of X GG Yb
  qO:=fY
  Gx:=PySem.W.mg_of X GG RN
  nY:=bY
  wW:=PySem.W.mg_of X GG Ea
  pH:=cZ
  Bf:=PySem.W.mg_of X GG JZ
  CT:=oY
  WQ:=PySem.W.mg_of X GG adG
  kJ:=dC
  wj:=PySem.W.mg_of X GG Jc
  rG:=fZ
  Hf:=PySem.W.mg_of X GG Tr
  u6:=iU
  KQ:=PySem.W.mg_of X GG YC
  oM:=eY
  BZ:=PySem.W.mg_of X GG O2
  mD:=dX
  zr:=PySem.W.mg_of X GG Mx
  yh:=lu
  O4:=PySem.W.mg_of X GG aai
  qT:=fW
  Ig:=PySem.W.mg_of X GG Ub
  qU:=gj
  GF:=PySem.W.mg_of X GG Th
  lB:=dD
  vY:=PySem.W.mg_of X GG Je
  Dq:=o5
  VM:=PySem.W.mg_of X GG adY
  yE:=kY
  QX:=PySem.W.mg_of X GG Z5
  Gk:=fun n=>Cj n "BadItem"
  tU:=fun n=>Cj n "BadLoftName"
  HH:=fun n=>Cj n "BadName"
  Ed:=fun n=>Cj n "BadPage"
  xQ:=fun n=>Cj n "BadPoints"
  La:=fun n=>Cj n "BadRow"
  Ef:=fun n=>Cj n "BadRule"
  Hj:=fun n=>Cj n "BadText"
  JK:=fun n=>Cj n "BadWeb"
  Wr:=fun n=>Cj n "Full"
  v4:=fun n=>Cj n "Groundless"
  vQ:=fun n=>Cj n "IndexError"
  BP:=fun n=>Cj n "KeyError"
  uM:=fun n=>Cj n "LookupError"
  Fy:=fun n=>Cj n "Missing"
  JD:=fun n=>Cj n "NoName"
  Bv:=fun n=>Cj n "NoNumber"
  yN:=fun n=>Cj n "NoProgram"
  Pn:=fun n=>Cj n "NoRow"
  Dr:=fun n=>Cj n "NoShape"
  Ft:=fun n=>Cj n "Nothing"
  vP:=fun n=>Cj n "OsierError"
  Wd:=fun n=>Cj n "Shut"
  Qm:=fun n=>Cj n "Taken"
  wA:=fun n=>Cj n "ValueError"
  FJ:=fun n=>abh (AS:=AS) (T:=XT) tX xal xaf "BadName" rfl rK.b rK.d
  GZ:=fun n=>abh (AS:=AS) (T:=XT) tX xal xaf "BadText" rfl j8.b j8.d
  Ky:=fun n=>abh (AS:=AS) (T:=XT) tX xal xaf "BadWeb" rfl vh.b vh.d
  Ge:=fun P base=>afu (n0:="self") (n1:="name") U0 rK qG X GG Gm (ps:=["self","name"]) ⟨rfl,rfl,rfl,by decide+kernel,rfl,by decide+kernel,by decide+kernel⟩ rfl rfl (Or.inl rfl) (Or.inl rfl) ⟨by decide,by decide⟩ ⟨by decide,by decide⟩ (fun _=>rfl) (fun _ _ _ _ _ _ us hl=>match us,hl with | [_,_],_=>rfl)
  qp:=fun P base=>afu (n0:="self") (n1:="place") U0 vh vz X GG JZ (ps:=["self","place"]) ⟨rfl,rfl,rfl,by decide+kernel,rfl,by decide+kernel,by decide+kernel⟩ rfl rfl (Or.inl rfl) (Or.inl rfl) ⟨by decide,by decide⟩ ⟨by decide,by decide⟩ (fun _=>rfl) (fun _ _ _ _ _ _ us hl=>match us,hl with | [_,_],_=>rfl)
  pN:=iW X GG pN
  jH:=iW X GG jH
  pG:=iW X GG pG
  oE:=iW X GG oE
  cW:=[.ref kZ,.ref km]
  eV:=rfl
  oU:=fun _ _=>(au.cons (by simp only [VR];exact ⟨kZ,_,rfl,.inr (.inr ⟨_,ji,wz,nW,rfl,rfl,jE.1,jE.2⟩),au.nil⟩) (au.cons (by simp only [VR];exact ⟨km,_,rfl,.inr (.inr ⟨_,jk,v9,nM,rfl,rfl,jF.1,jF.2⟩),au.nil⟩) au.nil))
  bO:=bO
  gh:=PySem.W.fnOf "__init__" "Web.__init__" (defArgs bG) (defBody bG) (defScope bG) (.ref rJ) vW wB vU vR pA vZ
  mH:=aad (st:=bG) Oq Nk Nt IK o7 (by simp) (.inl rfl)
  jN:=jN
  jM:=jM
  oA:=Vq rfl oA
  jC:=Vq rfl jC
  fP:=Vq rfl fP
  fU:=Vq rfl fU
  HS:=iW X GG HS
  nH:=iW X GG nH
  lE:=iW X GG lE
  lK:=iW X GG lK
  ou:=iW X GG ou
  zp:=iW X GG zp
  pX:=iW X GG pX
  yQ:=iW X GG yQ
  nO:=nO
  yj:=PySem.W.fnOf "_law_kin" "_law_kin" (defArgs nU) (defBody nU) (defScope nU) .none Xa Xe WY Wi Nb Wv
  M4:=yx (st:=nU) ahD agc ag7 (.inl rfl)
  aaq:=PySem.W.mg_of X GG ahh
  uO:=iW X GG uO
  Gy:=iW X GG Gy
  uz:=iW X GG uz
  ye:=iW X GG ye
  xV:=iW X GG xV
  yf:=iW X GG yf
  GJ:=iW X GG GJ
  qb:=iW X GG qb
  uJ:=iW X GG uJ
  v8:=v8
  Mh:=PySem.W.fnOf "law" "law" (defArgs tL) (defBody tL) (defScope tL) .none abk aaL Zx acn Ue Z3
  abd:=yx (st:=tL) aiA aiC ai8 (.inl rfl)
  aiM:=PySem.W.mg_of X GG aeV
 }
 exact ⟨R.Mh,al9 (ps:=["_law_script"]) R.abd fun _ _ _ _ _ _ _=>rfl,fun base _ _=>ahC R (ae8 R 10) Uz⟩
end K04
set_option maxHeartbeats 4000000
namespace K04
open PySem L2 Oz
def abc:Str:="abcdefghijklmnopqrstuvwxyz"
structure yt (z:Str):Prop where
 lo:1≤z.length
 hi:z.length≤6
 al:∀ c∈z.cps.toList,c∈abc.cps.toList
theorem ahK {M:aF} {d:jU} {xs:List Vl} {S T:Hs} {η:Sg} (hl:xs.length=d.np) (hb:exec M d.body (xs.map some++List.replicate (d.nn - xs.length) none) S=.nx η (S++T)) (hS:NR S):gK M d xs S=.ok (.val .non) S:=by
 unfold gK
 rw [if_pos hl,hb]
 simp only
 have ht:(S++T).take S.length=S:=by simp
 have hT:NR ((S++T).take S.length):=by rw [ht];exact hS
 rw [HR hT (by simp only [Vl.nr]),ht]
theorem j7 {z:Str} {x:Vl} (h:x∈iI z):∃ c∈z.cps.toList,x=.str ⟨#[c]⟩:=by
 unfold iI at h
 obtain ⟨c,h1,rfl⟩:=List.mem_map.mp h
 exact ⟨c,h1,rfl⟩
theorem wV (z:Str):(iI z).length=z.length:=by
 unfold iI
 rw [List.length_map];rfl
theorem iY {n:Nat} (h:n≤1000000):n≤sizeLine:=Nat.le_trans h (by decide)
theorem Qo {α:Type} (f:α→Bool):∀ xs:List α,allB (xs.map fun x=>Vl.bl (f x))=some (xs.map f)
 | []=>rfl
 | x::xs=>by simp only [List.map_cons,allB,af1,Qo f xs]
theorem CW {α:Type} (S:Hs) (f:α→Bool) (xs:List α):ir .all S (.lst (xs.map fun x=>Vl.bl (f x)))=some (.bl (xs.all f)):=by
 simp only [ir,bV,Option.bind_some,Qo,Option.map_some,List.all_map]
 rfl
def VF (c:Nat):Bool:=decide (c∈abc.cps.toList)
def age (z:Str):Bool:=z.cps.toList.all VF
def isW (z:Str) (lo hi:Int):Bool:=(decide (lo≤(z.length:Int))&&decide ((z.length:Int)≤hi))&&age z
def fCh (x:Vl):Vl:=match x with
 | .str s=>.bl (VF (s.cps.getD 0 0))
 | _=>.non
theorem YF (z:Str):(iI z).map fCh=z.cps.toList.map fun c=>Vl.bl (VF c):=by
 unfold iI
 rw [List.map_map]
 rfl
theorem Yi (n:Nat) {z:Str} (hz:z.length≤1000) {a b c:Option Vl} (S:Hs):d9 (Mn n) wO [some (.str z),a,b,c] S=.ok (.lst (z.cps.toList.map fun c=>.bl (VF c))) S:=by
 rw [← YF]
 unfold wO
 refine fO [] (iI z) fCh (yo (v_var rfl)) (aU S) (by rw [wV];omega) (fun x hx=> ?_) fun x hx aQ _=> ?_
 ·obtain ⟨d,_,rfl⟩:=j7 hx
  simp only [fCh,Vl.nr]
 ·obtain ⟨d,_,rfl⟩:=j7 hx
  refine ⟨_,rfl,aK (v_var rfl) aj ?_⟩
  simp only [cmpop,lX]
  rw [if_pos (show (⟨#[d]⟩:Str).length=1 from rfl)]
  rfl
theorem XN (n:Nat) {z:Str} (hz:z.length≤1000) (lo hi:Int) {S:Hs} (hS:NR S):gK (Mn n) Bl [.str z,.int lo,.int hi] S=.ok (.val (.bl (isW z lo hi))) S:=by
 refine dh (T:=[]) rfl ?_ hS (by simp only [Vl.nr])
 show exec (Mn n) Jw [some (.str z),some (.int lo),some (.int hi),none] S=_
 have hl:ir .len S (.str z)=some (.int z.length):=if_pos (iY (by omega))
 rw [List.append_nil]
 refine bA (dJ _ _ ?_)
 unfold isW
 by_cases c1:lo≤(z.length:Int)
 ·by_cases c2:(z.length:Int)≤hi
  ·rw [decide_eq_true c1,decide_eq_true c2,Bool.true_and,Bool.true_and]
   exact pB (Lj (d1:=true) (v_var rfl) (dG (v_var rfl) hl) (congrArg some (decide_eq_true c1)) (v_var rfl) (congrArg some (decide_eq_true c2))) (dG (dw (Yi n hz S)) (CW S _ _))
  ·rw [decide_eq_true c1,decide_eq_false c2]
   exact wG (Lj (d1:=true) (v_var rfl) (dG (v_var rfl) hl) (congrArg some (decide_eq_true c1)) (v_var rfl) (congrArg some (decide_eq_false c2)))
 ·rw [decide_eq_false c1]
  exact wG (Mi (v_var rfl) (dG (v_var rfl) hl) (congrArg some (decide_eq_false c1)))
theorem aav (n:Nat) {z:Str} (hz:z.length≤1000) (lo hi:Int) {S:Hs} (hS:NR S):(Mn (n+1)).cal "is_word" [.str z,.int lo,.int hi] S=.ok (.val (.bl (isW z lo hi))) S:=by
 rw [Ks];exact XN n hz lo hi hS
theorem abY {z:Str} (h:yt z):isW z 1 6=true:=by
 unfold isW age
 have h1:=h.lo
 have h2:=h.hi
 rw [decide_eq_true (by omega),decide_eq_true (by omega),Bool.true_and,Bool.true_and,List.all_eq_true]
 exact fun c hc=>decide_eq_true (h.al c hc)
abbrev cY:=List (Str × Int)
def valN (nm:cY):List Vl:=nm.map fun p=>.tup [.str p.1,.int p.2]
theorem Ou (nm:cY):dH (valN nm)=true:=tY fun x hx=>by
 obtain ⟨p,_,rfl⟩:=List.mem_map.mp hx
 simp [Vl.nr,dH]
theorem jK (nm:cY):(valN nm).length=nm.length:=by unfold valN;rw [List.length_map]
theorem Ve {nm:cY} {i:Nat} {x:Vl} (h:(valN nm)[i]? =some x):∃ p,nm[i]? =some p∧x=.tup [.str p.1,.int p.2]:=by
 unfold valN at h
 rw [List.getElem?_map] at h
 obtain ⟨p,h1,rfl⟩:=Option.map_eq_some_iff.mp h
 exact ⟨p,h1,rfl⟩
theorem aaI {nm:cY} {i:Nat} {p:Str × Int} (h:nm[i]? =some p):(valN nm)[i]? =some (.tup [.str p.1,.int p.2]):=by
 unfold valN;rw [List.getElem?_map,h];rfl
theorem cO {α:Type} {xs:List α} {i:Nat} {x:α} (h:xs[i]? =some x):xs.take (i+1)=xs.take i++[x]:=by
 rw [List.take_add_one,h];rfl
theorem ux {α:Type} {xs:List α} {i:Nat} {x:α} (nd:xs.Nodup) (h:xs[i]? =some x):x∉xs.take i:=fun hx=>by
 obtain ⟨j,hj⟩:=List.getElem?_of_mem hx
 rw [List.getElem?_take] at hj
 split at hj
 ·rename_i hl
  have:=(List.getElem?_inj ((List.getElem?_eq_some_iff.mp hj).1) nd).mp (hj.trans h.symm)
  omega
 ·cases hj
def jc (nm:cY) (i:Nat):Bool:=match nm[i]? with
 | some p=>isW p.1 1 6&&decide (p.1∉(nm.map (·.1)).take i)
 | none=>true
theorem zN (P:Nat→Bool):∀ n:Nat,(∀ i,i<n→P i=true)∨∃ j,j<n∧P j=false∧∀ i,i<j→P i=true
 | 0=>.inl fun i h=>absurd h (Nat.not_lt_zero i)
 | n+1=>by
  rcases zN P n with h | ⟨j,h1,h2,h3⟩
  ·cases c:P n with
   | true=>
    refine .inl fun i hi=> ?_
    by_cases e:i=n
    ·rw [e];exact c
    ·exact h i (by omega)
   | false=>exact .inr ⟨n,by omega,c,h⟩
  ·exact .inr ⟨j,by omega,h2,h3⟩
theorem Ec {nm:cY} {i:Nat} {p:Str × Int} (h:nm[i]? =some p) (g:jc nm i=true):isW p.1 1 6=true∧p.1∉(nm.map (·.1)).take i:=by
 unfold jc at g
 rw [h] at g
 simp only [Bool.and_eq_true,decide_eq_true_eq] at g
 exact g
theorem adR {nm:cY} {i:Nat} {p:Str × Int} (h:nm[i]? =some p) (g:jc nm i=false):isW p.1 1 6=false∨(isW p.1 1 6=true∧p.1∈(nm.map (·.1)).take i):=by
 unfold jc at g
 simp only [h] at g
 cases c:isW p.1 1 6 with
 | false=>exact .inl rfl
 | true=>
  simp only [c,Bool.true_and,decide_eq_false_iff_not,Classical.not_not] at g
  exact .inr ⟨rfl,g⟩
theorem aeh {nm:cY} (h:∀ i,i<nm.length→jc nm i=true):(nm.map (·.1)).Nodup:=by
 unfold List.Nodup
 rw [List.pairwise_iff_getElem]
 intro i j hi hj hij e
 have hjl:j<nm.length:=by simpa using hj
 have hpj:nm[j]? =some nm[j]:=List.getElem?_eq_getElem hjl
 refine (Ec hpj (h j hjl)).2 ?_
 have Rp:i<nm.length:=by omega
 have e2:nm[i].1=nm[j].1:=by simpa using e
 rw [← e2]
 exact List.mem_of_getElem? (i:=i) (by rw [List.getElem?_take_of_lt hij,List.getElem?_map,List.getElem?_eq_getElem Rp];rfl)
def sN (nm:cY) (v:Vl) (S:Hs) (i:Nat) (η:Sg) (S':Hs):Prop:=∃ vs a2 a3,η=[some v,some (.ref S.length),a2,a3]∧S'=S++[.dct (((nm.map (·.1)).take i).map Sum.inr) vs]∧vs.length=((nm.map (·.1)).take i).length∧dH vs=true
theorem Pa {nm:cY} {S:Hs} {i:Nat} {vs:List Vl} {z:Str}:lX (S++[.dct (((nm.map (·.1)).take i).map Sum.inr) vs]) (.str z) (.ref S.length)=some (decide (z∈(nm.map (·.1)).take i)):=by
 rw [Ym (ks:=((nm.map (·.1)).take i).map Sum.inr) (vs:=vs) (by simp only [aX,List.getElem?_concat_length])]
 congr 1
 generalize (nm.map (·.1)).take i=l
 rw [Bool.eq_iff_iff,List.any_eq_true,decide_eq_true_eq]
 constructor
 ·rintro ⟨k,hk,e⟩
  obtain ⟨y,hy,rfl⟩:=List.mem_map.mp hk
  rw [decide_eq_true_eq] at e
  exact Sum.inr.inj e ▸ hy
 ·exact fun h=>⟨Sum.inr z,List.mem_map.mpr ⟨z,h,rfl⟩,decide_eq_true rfl⟩
theorem Jy (n:Nat) {nm:cY} (hz:∀ p∈nm,p.1.length≤1000) (hl:nm.length≤1000) (v:Vl) {S:Hs} (hS:NR S) {i:Nat} {x:Vl} {η:Sg} {S':Hs} (hx:(valN nm)[i]? =some x) (hg:jc nm i=true) (h:sN nm v S i η S') :
  ∃ η1,aZ (.tp (.cons (.nm 2) (.cons (.nm 3) .nil))) x η=some η1∧∃ η2 S2,(exec (Mn (n+1)) jd η1 S'=.nx η2 S2∨exec (Mn (n+1)) jd η1 S'=.cnt η2 S2)∧sN nm v S (i+1) η2 S2:=by
 obtain ⟨vs,a2,a3,e1,e2,e3,e4⟩:=h
 subst e1 e2
 obtain ⟨p,hp,rfl⟩:=Ve hx
 have hp1:(nm.map (·.1))[i]? =some p.1:=by rw [List.getElem?_map,hp];rfl
 have WP:NR (S++[.dct (((nm.map (·.1)).take i).map Sum.inr) vs]):=hS.one (by simpa only [Ob.nr] using e4)
 obtain ⟨g1,hni⟩:=Ec hp hg
 have rw_:=aav n (hz p (List.mem_of_getElem? hp)) 1 6 WP
 rw [g1] at rw_
 refine ⟨_,rfl,_,_,.inl (aq (bD _ (t8 (jR (d:=true) (bJ (r:=.val (.bl true)) (aa (v_var rfl) (aa aj (aa aj az))) rw_)) (aK (v_var rfl) (v_var rfl) ?_)) aM) (aq (rE aj (v_var rfl) (v_var rfl) (jP (kk:=Sum.inr p.1) List.getElem?_concat_length rfl ?_)) aM)),?_⟩
 ·show lX _ (.str p.1) (.ref S.length)=some false
  rw [Pa,decide_eq_false hni]
 ·have:=(List.getElem?_eq_some_iff.mp hp).1
  simp only [List.length_take,List.length_map];omega
 ·refine ⟨vs++[.bl true],_,_,rfl,?_,?_,oG e4 (by simp [dH,Vl.nr])⟩
  ·rw [uf (fun hk=>by
    obtain ⟨z,hz,e⟩:=List.mem_map.mp hk
    exact hni (Sum.inr.inj e ▸ hz)),cO hp1,List.map_append]
   simp
  ·rw [cO hp1,List.length_append,List.length_append,e3];rfl
theorem YS (n:Nat) {nm:cY} (hz:∀ p∈nm,p.1.length≤1000) (hl:nm.length≤1000) (hg:∀ i,i<nm.length→jc nm i=true) {v:Vl} {S:Hs} (hv:∃ lk,∀ T,lZ (S++T) v=some (lk,valN nm)∧cP lk (S++T)) (hS:NR S):(Mn (n+2)).cal "need_names" [v] S=.ok (.val .non) S:=by
 rw [qY]
 obtain ⟨lk,hv⟩:=hv
 obtain ⟨η',S',h1,vs,a2,a3,rfl,rfl,_,_⟩:=ie (body:=fun η1 S2=>exec (Mn (n+1)) jd η1 S2) (t:=.tp (.cons (.nm 2) (.cons (.nm 3) .nil))) (lk:=lk) (xs:=valN nm) (η:=[some v,some (.ref S.length),none,none]) (S:=S++[.dct [] []])
  (sN nm v S) ⟨[],none,none,rfl,rfl,rfl,by simp only [dH]⟩ (fun i η S' ⟨_,_,_,_,e2,_⟩=>by rw [e2];exact (hv _).2) fun i x η S' hx h=>Jy n hz hl v hS hx (hg i (by rw [← jK];exact (List.getElem?_eq_some_iff.mp hx).1)) h
 exact ahK rfl (aq (bz _ _ (m9 Ij) rfl) (aq (jJ _ _ _ (iG (v_var rfl) (hv _).1) h1) aM)) hS
theorem TQ (n:Nat) {nm:cY} (hz:∀ p∈nm,p.1.length≤1000) (hl:nm.length≤1000) {j:Nat} {p:Str × Int} (hp:nm[j]? =some p) (hb:jc nm j=false) (hg:∀ i,i<j→jc nm i=true) {v:Vl} {S:Hs} (hv:∃ lk,∀ T,lZ (S++T) v=some (lk,valN nm)∧cP lk (S++T)) (hS:NR S) :
  (Mn (n+2)).cal "need_names" [v] S=.exc ⟨"BadName",some (["name"],[.str p.1])⟩ S:=by
 rw [qY]
 obtain ⟨lk,hv⟩:=hv
 obtain ⟨η',S',⟨vs,a2,a3,e1,e2,e3,e4⟩,hend⟩:=OJ (body:=fun η1 S2=>exec (Mn (n+1)) jd η1 S2) (t:=.tp (.cons (.nm 2) (.cons (.nm 3) .nil))) (lk:=lk) (xs:=valN nm) (η:=[some v,some (.ref S.length),none,none]) (S:=S++[.dct [] []])
  (sN nm v S) j ⟨[],none,none,rfl,rfl,rfl,by simp only [dH]⟩ (fun i η S' ⟨_,_,_,_,e2,_⟩=>by rw [e2];exact (hv _).2) (aaI hp) fun i x η S' hi hx h=>Jy n hz hl v hS hx (hg i hi) h
 subst e1 e2
 have WP:NR (S++[.dct (((nm.map (·.1)).take j).map Sum.inr) vs]):=hS.one (by simpa only [Ob.nr] using e4)
 have rw_:=aav n (hz p (List.mem_of_getElem? hp)) 1 6 WP
 have test:ev (Mn (n+1)) (.bor (.pY (.call "is_word" (.cons (.var 2) (.cons (.cst (.int 1)) (.cons (.cst (.int 6)) .nil))))) (.cmp .In (.var 2) (.var 1))) [some v,some (.ref S.length),some (.str p.1),some (.int p.2)] (S++[.dct (((nm.map (·.1)).take j).map Sum.inr) vs])=.ok (.bl true) (S++[.dct (((nm.map (·.1)).take j).map Sum.inr) vs]):=by
  rcases adR hp hb with c | ⟨c,d⟩
  ·rw [c] at rw_
   exact O3 (jR (d:=false) (bJ (r:=.val (.bl false)) (aa (v_var rfl) (aa aj (aa aj az))) rw_))
  ·rw [c] at rw_
   refine t8 (jR (d:=true) (bJ (r:=.val (.bl true)) (aa (v_var rfl) (aa aj (aa aj az))) rw_)) (aK (v_var rfl) (v_var rfl) ?_)
   show lX _ (.str p.1) (.ref S.length)=some true
   rw [Pa,decide_eq_true d]
 have acd:=hend _ _ rfl (cA (cQ _ test (cA (x_raise (v_var rfl) (oF (n+1)))))) (.inl ⟨_,_,_,rfl⟩)
 exact M8 (T:=[Ob.dct (((nm.map fun p:Str × Int=>p.1).take j).map Sum.inr) vs]) rfl (aq (bz _ _ (m9 Ij) rfl) (cA (jJ _ _ _ (iG (v_var rfl) (hv _).1) acd))) hS (fun ns vs e=>by cases e;simp [dH,Vl.nr])
abbrev Its:=List (Str × List Int)
def aY (it:Its):List Vl:=it.map fun p=>.tup [.str p.1,.tup (p.2.map .int)]
theorem qQ (it:Its):dH (aY it)=true:=tY fun x hx=>by
 obtain ⟨p,_,rfl⟩:=List.mem_map.mp hx
 simp [Vl.nr,dH,dW]
theorem fV (it:Its):(aY it).length=it.length:=by unfold aY;rw [List.length_map]
theorem Wl {it:Its} {i:Nat} {x:Vl} (h:(aY it)[i]? =some x):∃ p,it[i]? =some p∧x=.tup [.str p.1,.tup (p.2.map .int)]:=by
 unfold aY at h
 rw [List.getElem?_map] at h
 obtain ⟨p,h1,rfl⟩:=Option.map_eq_some_iff.mp h
 exact ⟨p,h1,rfl⟩
theorem pF {it:Its} {i:Nat} {p:Str × List Int} (h:it[i]? =some p):(aY it)[i]? =some (.tup [.str p.1,.tup (p.2.map .int)]):=by
 unfold aY;rw [List.getElem?_map,h];rfl
def inR (many t:Int):Bool:=decide (-1≤t)&&decide (t≤many)
def nj (w:Str) (ts:List Int):Bool:=if w=("cell":Str) then decide (ts.length=2) else isW w 2 8&&decide (ts.length≤2)
def dY (many:Int) (p:Str × List Int):Bool:=nj p.1 p.2&&p.2.all (inR many)
def agD (many:Int) (x:Vl):Vl:=match x with
 | .int t=>.bl (inR many t)
 | _=>.non
theorem aeM {M:aF} {η:Sg} {S:Hs} {a b c:E} {t hi:Int} (ha:ev M a η S=.ok (.int (-1)) S) (hb:ev M b η S=.ok (.int t) S) (hc:ev M c η S=.ok (.int hi) S):ev M (.Rq .LtE .LtE a b c) η S=.ok (.bl (inR hi t)) S:=by
 unfold inR
 by_cases c1: -1≤t
 ·rw [decide_eq_true c1,Bool.true_and]
  exact Lj (d1:=true) ha hb (congrArg some (decide_eq_true c1)) hc rfl
 ·rw [decide_eq_false c1]
  exact Mi ha hb (congrArg some (decide_eq_false c1))
theorem akb (n:Nat) {many:Int} {ts:List Int} (hl:ts.length≤1000) {w:Vl} {a:Option Vl} {b:Option Vl} (S:Hs):d9 (Mn n) rC [some w,some (.tup (ts.map .int)),some (.int many),a,b] S=.ok (.lst (ts.map fun t=>.bl (inR many t))) S:=by
 have e:(ts.map fun t=>Vl.bl (inR many t))=(ts.map Vl.int).map (agD many):=by rw [List.map_map];rfl
 rw [e]
 unfold rC
 refine fO [] (ts.map .int) (agD many) (iG (v_var rfl) rfl) (aU S) (by rw [List.length_map];omega) (fun x hx=> ?_) fun x hx aQ _=> ?_
 ·obtain ⟨t,_,rfl⟩:=List.mem_map.mp hx
  simp only [agD,Vl.nr]
 ·obtain ⟨t,ht,rfl⟩:=List.mem_map.mp hx
  exact ⟨_,rfl,aeM aj (v_var rfl) (v_var rfl)⟩
theorem afG (n:Nat) {many:Int} {p:Str × List Int} (hw:p.1.length≤1000) (ht:p.2.length≤1000) {S:Hs} (hS:NR S):(Mn (n+2)).cal "is_item" [.str p.1,.tup (p.2.map .int),.int many] S=.ok (.val (.bl (dY many p))) S:=by
 rw [JM]
 refine dh (T:=[]) rfl ?_ hS (by simp only [Vl.nr])
 show exec (Mn (n+1)) Jq [some (.str p.1),some (.tup (p.2.map .int)),some (.int many),none,none] S=_
 rw [List.append_nil]
 have fin:∀ g:Bool,exec (Mn (n+1)) (.cons (.ret (.band (.var 3) (.b1 .all (.inl rC)))) .nil) [some (.str p.1),some (.tup (p.2.map .int)),some (.int many),some (.bl g),none] S=.ret (.val (.bl (g&&p.2.all (inR many)))) S:=fun g=>by
  cases g with
  | true=>rw [Bool.true_and];exact bA (dJ _ _ (pB (v_var rfl) (dG (dw (akb (n+1) ht S)) (CW S _ _))))
  | false=>exact bA (dJ _ _ (wG (v_var rfl)))
 have ln:∀ S,ir .len S (.tup (p.2.map Vl.int))=some (.int p.2.length):=fun S=>by rw [Vk,List.length_map]
 unfold dY
 refine aq (η1:=[some (.str p.1),some (.tup (p.2.map .int)),some (.int many),some (.bl (nj p.1 p.2)),none]) ?_ (fin _)
 unfold nj
 by_cases c:p.1=("cell":Str)
 ·rw [if_pos c]
  refine cQ _ (aK (v_var rfl) aj (congrArg some (decide_eq_true c))) (aq (bz _ _ (aK (d:=decide (p.2.length=2)) (dG (v_var rfl) (ln S)) aj ?_) rfl) aM)
  show some (decide ((p.2.length:Int)=2))=_
  congr 1
  rw [Bool.eq_iff_iff,decide_eq_true_eq,decide_eq_true_eq]
  omega
 ·rw [if_neg c]
  refine bD _ (aK (v_var rfl) aj (congrArg some (decide_eq_false c))) (aq (bz _ _ ?_ rfl) aM)
  have hc:=aav n hw 2 8 hS
  cases d:isW p.1 2 8 with
  | false=>
   rw [d] at hc
   exact wG (bJ (r:=.val (.bl false)) (aa (v_var rfl) (aa aj (aa aj az))) hc)
  | true=>
   rw [d] at hc
   rw [Bool.true_and]
   refine pB (bJ (r:=.val (.bl true)) (aa (v_var rfl) (aa aj (aa aj az))) hc) (aK (dG (v_var rfl) (ln S)) aj ?_)
   show some (decide ((p.2.length:Int)≤2))=_
   congr 1
   rw [Bool.eq_iff_iff,decide_eq_true_eq,decide_eq_true_eq]
   omega
end K04
namespace K04
open PySem L2 Oz
def zs (ns:List Int):Vl:=.lst (ns.map .int)
theorem QQ {ns:List Int} {i:Nat} {x:Vl} (h:(ns.map Vl.int)[i]? =some x):∃ z,ns[i]? =some z∧x=.int z:=by
 rw [List.getElem?_map] at h
 obtain ⟨z,h1,rfl⟩:=Option.map_eq_some_iff.mp h
 exact ⟨z,h1,rfl⟩
theorem agN (n:Nat) (ns:List Int) {k:Nat} {S:Hs} (hS:NR S):∃ z:Int,(Mn (n+1)).cal "_law_cell" [zs ns,.int k] S=.ok (.val (.int z)) S:=by
 by_cases hk:k<ns.length
 ·obtain ⟨z,hz⟩:∃ z,ns[k]? =some z:=⟨_,List.getElem?_eq_getElem hk⟩
  refine ⟨z,?_⟩
  rw [Nf]
  refine dh (T:=[]) rfl ?_ hS (by simp only [Vl.nr])
  show exec (Mn n) xZ [some (zs ns),some (.int k),none,none] S=_
  have h1:decide ((k:Int)<(((ns.map Vl.int).length:Nat):Int))=true:=decide_eq_true (by rw [List.length_map];omega)
  have h2:(ns.map Vl.int)[k]? =some (.int z):=by rw [List.getElem?_map,hz];rfl
  unfold xZ
  simp only [Oz.exec,aP,ev,Res.out,Res.bind,List.getElem?_cons_zero,List.getElem?_cons_succ,zs,mK,gY,cmpop,h1,jT h2,List.append_nil]
 ·have h1:decide ((k:Int)<(((ns.map Vl.int).length:Nat):Int))=false:=decide_eq_false (by rw [List.length_map];omega)
  obtain ⟨η',S',e1,e2,b,a3,hb0,hb1,e3⟩:=ie (body:=fun η1 S2=>Oz.exec (Mn n) DP η1 S2) (t:=.nm 3) (lk:=[]) (xs:=ns.map Vl.int) (η:=[some (zs ns),some (.int k),some (.int 17),none]) (S:=S)
   (fun i η T=>T=S∧∃ (b:Int) (a3:Option Vl),0≤b∧b<1000003∧η=[some (zs ns),some (.int k),some (.int b),a3]) ⟨rfl,17,none,by omega,by omega,rfl⟩ (fun _ _ _ _=>aU _)
   (fun i x η T ex ⟨q1,b,a3,q2,q3,q4⟩=>by
    subst q1 q4
    obtain ⟨z,_,rfl⟩:=QQ ex
    refine ⟨_,rfl,[some (zs ns),some (.int k),some (.int ((b* 31+z)%1000003)),some (.int z)],T,.inl ?_,rfl,_,_,Int.emod_nonneg _ (by omega),Int.emod_lt_of_pos _ (by omega),rfl⟩
    unfold DP
    simp only [Oz.exec,aP,ev,Res.out,Res.bind,List.getElem?_cons_zero,List.getElem?_cons_succ,List.set_cons_zero,List.set_cons_succ,gY,aZ,eZ,GP (i:=b) (j:=31) (by omega) (by omega),jy (j:=1000003) (by omega)])
  subst e2 e3
  refine ⟨(b+1)* (k+3)* 7919%2147483629,?_⟩
  rw [Nf]
  refine dh (T:=[]) rfl ?_ hS (by simp only [Vl.nr])
  show exec (Mn n) xZ [some (zs ns),some (.int k),none,none] S'=_
  have m1:=qL (i:=b+1) (j:=k+3) (by omega) (by omega)
  unfold xZ
  simp only [zs] at e1
  simp only [Oz.exec,aP,ev,pC,lZ,Res.out,Res.bind,List.getElem?_cons_zero,List.getElem?_cons_succ,List.set_cons_zero,List.set_cons_succ,aZ,zs,mK,gY,cmpop,h1,e1,eZ,m1,GP (i:=(b+1)* (k+3)) (j:=7919) (by omega) (by omega),jy (j:=2147483629) (by omega),List.append_nil]
structure Xp (sizes ds:List Int):Prop where
 len:ds.length=sizes.length
 at_:∀ (i:Nat) (d s:Int),ds[i]? =some d→sizes[i]? =some s→0≤d∧d<s
theorem Ju {sizes ds:List Int} {y s:Int} (h:∀ (i:Nat) (d s:Int),ds[i]? =some d→sizes[i]? =some s→0≤d∧d<s) (hs:sizes[ds.length]? =some s) (h0:0≤y) (h1:y<s):∀ (i:Nat) (d s:Int),(ds++[y])[i]? =some d→sizes[i]? =some s→0≤d∧d<s:=by
 intro i d s' e1 e2
 by_cases hi:i<ds.length
 ·rw [List.getElem?_append_left hi] at e1
  exact h i d s' e1 e2
 ·by_cases hj:i=ds.length
  ·subst hj
   rw [List.getElem?_concat_length] at e1
   cases e1
   rw [hs] at e2;cases e2
   exact ⟨h0,h1⟩
  ·rw [List.getElem?_eq_none (by simp;omega)] at e1;cases e1
theorem U6 (n:Nat) (ns:List Int) {k:Nat} {sizes:List Int} (hz:∀ s∈sizes,0<s∧s<1073741824) (hl:sizes.length≤1000) {S:Hs} (hS:NR S) {c p:Int} (hc:(Mn (n+1)).cal "_law_cell" [zs ns,.int k] S=.ok (.val (.int c)) S) (hp:binop .Pow (.int 10) (.int 18)=some (.int p)) (hb:p≤c):∃ ds:List Int,Xp sizes ds∧(Mn (n+2)).cal "_law_digits" [zs ns,.int k,zs sizes] S=.ok (.frs (.lst (ds.map .int))) S:=by
 obtain ⟨η',S',e1,ds,rest,a6,hd,hd2,e2,e3⟩:=ie (body:=fun η1 S2=>Oz.exec (Mn (n+1)) wR η1 S2) (t:=.nm 6) (lk:=[]) (xs:=sizes.map Vl.int) (η:=[some (zs ns),some (.int k),some (zs sizes),some (.int c),some (.ref S.length),some (.int (c - p)),none,none,none,none]) (S:=S++[.lst []])
  (fun i η T=>∃ (ds:List Int) (rest:Int) (a6:Option Vl),ds.length=i∧(∀ (i:Nat) (d s:Int),ds[i]? =some d→sizes[i]? =some s→0≤d∧d<s)∧T=S++[.lst (ds.map .int)]∧η=[some (zs ns),some (.int k),some (zs sizes),some (.int c),some (.ref S.length),some (.int rest),a6,none,none,none])
  ⟨[],_,none,rfl,fun i d s e=>by simp at e,rfl,rfl⟩ (fun _ _ _ _=>aU _)
  (fun i x η T ex ⟨ds,rest,a6,q1,q2,q3,q4⟩=>by
   subst q3 q4
   obtain ⟨s,hs,rfl⟩:=QQ ex
   have ss:=hz s (List.mem_of_getElem? hs)
   have il:i<sizes.length:=(List.getElem?_eq_some_iff.mp hs).1
   refine ⟨_,rfl,[some (zs ns),some (.int k),some (zs sizes),some (.int c),some (.ref S.length),some (.int (rest / s)),some (.int s),none,none,none],S++[.lst ((ds++[rest%s]).map .int)],.inl ?_,ds++[rest%s],_,_,by simp [q1],Ju q2 (by rw [q1];exact hs) (Int.emod_nonneg _ (by omega)) (Int.emod_lt_of_pos _ ss.1),rfl,rfl⟩
   have hm:=kh (xs:=ds.map Vl.int) (y:=.int (rest%s)) (by rw [List.length_map];omega)
   unfold wR
   simp only [Oz.exec,aP,ev,evs,Res.out,Res.bind,List.getElem?_cons_zero,List.getElem?_cons_succ,List.set_cons_zero,List.set_cons_succ,gY,aZ,ju,jy ss.1,Uc ss.1 ss.2,List.getElem?_concat_length,hm,iT,List.map_append,List.map_cons,List.map_nil])
 subst e2 e3
 refine ⟨ds,⟨by rw [hd,List.length_map],hd2⟩,?_⟩
 rw [z7]
 refine uX (r:=0) (T:=[.lst (ds.map .int)]) rfl ?_ hS rfl (dW _)
 show exec (Mn (n+1)) qd [some (zs ns),some (.int k),some (zs sizes),none,none,none,none,none,none,none] S=_
 have h1:decide (p≤c)=true:=decide_eq_true hb
 unfold qd
 simp only [zs] at e1 hc
 simp only [Oz.exec,aP,ev,evs,d9,pC,lZ,Res.out,Res.bind,List.getElem?_cons_zero,List.getElem?_cons_succ,List.set_cons_zero,List.set_cons_succ,aZ,zs,gY,qj,hc,Rv.v,List.length_nil,sizeLine,Nat.zero_le,if_true,hp,cmpop,h1,Ra,e1,Nat.add_zero]
theorem Nq (n:Nat) (ns:List Int) {k:Nat} {sizes:List Int} (hz:∀ s∈sizes,0<s∧s<1073741824) (hl:sizes.length≤1000) {S:Hs} (hS:NR S) {c p:Int} (hc:(Mn (n+1)).cal "_law_cell" [zs ns,.int k] S=.ok (.val (.int c)) S) (hp:binop .Pow (.int 10) (.int 18)=some (.int p)) (hb:¬ p≤c):∃ ds:List Int,Xp sizes ds∧(Mn (n+2)).cal "_law_digits" [zs ns,.int k,zs sizes] S=.ok (.frs (.lst (ds.map .int))) S:=by
 obtain ⟨η',S',e1,ds,one,a8,a9,hd,h0,hq,hd2,e2,e3⟩:=ie (body:=fun η1 S2=>Oz.exec (Mn (n+1)) wF η1 S2) (t:=.nm 8) (lk:=[]) (xs:=jg 0 sizes.length) (η:=[some (zs ns),some (.int k),some (zs sizes),some (.int c),some (.ref S.length),none,none,some (.int (c%2147483647)),none,none]) (S:=S++[.lst []])
  (fun i η T=>∃ (ds:List Int) (one:Int) (a8 a9:Option Vl),ds.length=i∧0≤one∧one<2147483648∧(∀ (i:Nat) (d s:Int),ds[i]? =some d→sizes[i]? =some s→0≤d∧d<s)∧T=S++[.lst (ds.map .int)]∧η=[some (zs ns),some (.int k),some (zs sizes),some (.int c),some (.ref S.length),none,none,some (.int one),a8,a9])
  ⟨[],_,none,none,rfl,Int.emod_nonneg _ (by omega),Int.lt_trans (Int.emod_lt_of_pos _ (by omega)) (by omega),fun i d s e=>by simp at e,rfl,rfl⟩ (fun _ _ _ _=>aU _)
  (fun i x η T ex ⟨ds,one,a8,a9,q1,p0,p1,q2,q3,q4⟩=>by
   subst q3 q4
   obtain ⟨il,rfl⟩:=rP ex
   obtain ⟨s,hs⟩:∃ s,sizes[i]? =some s:=⟨_,List.getElem?_eq_getElem il⟩
   have ss:=hz s (List.mem_of_getElem? hs)
   have CJ:(sizes.map Vl.int)[i]? =some (.int s):=by rw [List.getElem?_map,hs];rfl
   obtain ⟨one',ho⟩:∃ o,o=(one* 48271+10007* ((i:Int)+1))%2147483629:=⟨_,rfl⟩
   have o0:0≤one':=by rw [ho];exact Int.emod_nonneg _ (by omega)
   have o1:one'<2147483629:=by rw [ho];exact Int.emod_lt_of_pos _ (by omega)
   obtain ⟨two,ht⟩:∃ o,o=(one'* one'+69621* one'+(i:Int))%2147483563:=⟨_,rfl⟩
   refine ⟨_,rfl,[some (zs ns),some (.int k),some (zs sizes),some (.int c),some (.ref S.length),none,none,some (.int one'),some (.int i),some (.int two)],S++[.lst ((ds++[two / 11%s]).map .int)],.inl ?_,ds++[two / 11%s],one',_,_,by simp [q1],o0,by omega,Ju q2 (by rw [q1];exact hs) (Int.emod_nonneg _ (by omega)) (Int.emod_lt_of_pos _ ss.1),rfl,rfl⟩
   have hm:=kh (xs:=ds.map Vl.int) (y:=.int (two / 11%s)) (by rw [List.length_map];omega)
   unfold wF
   simp only [Oz.exec,aP,ev,evs,Res.out,Res.bind,List.getElem?_cons_zero,List.getElem?_cons_succ,List.set_cons_zero,List.set_cons_succ,gY,aZ,ju,eZ,GP (i:=one) (j:=48271) (by omega) (by omega),qL (i:=10007) (j:=(i:Int)+1) (by omega) (by omega),jy (j:=2147483629) (by omega),← ho,
    qL (i:=one') (j:=one') (by omega) (by omega),qL (i:=69621) (j:=one') (by omega) (by omega),jy (j:=2147483563) (by omega),← ht,Uc (i:=two) (j:=11) (by omega) (by omega),zs,jT CJ,jy ss.1,List.getElem?_concat_length,hm,iT,List.map_append,List.map_cons,List.map_nil])
 subst e2 e3
 refine ⟨ds,⟨by rw [hd,iw],hd2⟩,?_⟩
 rw [z7]
 refine uX (r:=0) (T:=[.lst (ds.map .int)]) rfl ?_ hS rfl (dW _)
 show exec (Mn (n+1)) qd [some (zs ns),some (.int k),some (zs sizes),none,none,none,none,none,none,none] S=_
 have h1:decide (p≤c)=false:=decide_eq_false hb
 have es:pC (Mn (n+1)) (.xY (.b1 .len (.var 2))) [some (zs ns),some (.int k),some (zs sizes),some (.int c),some (.ref S.length),none,none,some (.int (c%2147483647)),none,none] (S++[.lst []])=.ok ([],jg 0 sizes.length) (S++[.lst []]):=mO (by simp only [ev,zs,Res.bind,gY,List.getElem?_cons_zero,List.getElem?_cons_succ,mK,List.length_map]) (by omega)
 unfold qd
 refine aq (bz (.int c) S (by simp only [ev,evs,Res.bind,List.getElem?_cons_zero,List.getElem?_cons_succ,qj,hc,Rv.v]) rfl) ?_
 refine aq (bz (.ref S.length) (S++[.lst []]) (by simp only [ev,d9,evs,Res.bind,List.length_nil,sizeLine,Nat.zero_le,if_true]) rfl) ?_
 refine aq (bD (S++[.lst []]) (by simp only [ev,Res.bind,List.getElem?_cons_zero,List.getElem?_cons_succ,List.set_cons_zero,List.set_cons_succ,hp,gY,cmpop,h1]) aM) ?_
 refine aq (bz (.int (c%2147483647)) (S++[.lst []]) (by simp only [ev,Res.bind,List.getElem?_cons_zero,List.getElem?_cons_succ,List.set_cons_zero,List.set_cons_succ,gY,jy (j:=2147483647) (by omega)]) rfl) ?_
 refine aq (jJ [] _ _ es e1) ?_
 exact bA (dJ _ _ (by simp only [ev,List.getElem?_cons_zero,List.getElem?_cons_succ,Nat.add_zero]))
theorem uv (n:Nat) (ns:List Int) {k:Nat} {sizes:List Int} (hz:∀ s∈sizes,0<s∧s<1073741824) (hl:sizes.length≤1000) {S:Hs} (hS:NR S):∃ ds:List Int,Xp sizes ds∧(Mn (n+2)).cal "_law_digits" [zs ns,.int k,zs sizes] S=.ok (.frs (.lst (ds.map .int))) S:=by
 obtain ⟨c,hc⟩:=agN n ns (k:=k) hS
 obtain ⟨p,hp⟩:∃ p:Int,binop .Pow (.int 10) (.int 18)=some (.int p):=⟨_,aid (i:=10) (j:=18) (by decide) (by decide) (by decide)⟩
 by_cases hb:p≤c
 ·exact U6 n ns hz hl hS hc hp hb
 ·exact Nq n ns hz hl hS hc hp hb
end K04
namespace K04
open PySem L2 Oz
def al (z:Str):Prop:=∀ c∈z.cps.toList,c∈abc.cps.toList
theorem SJ (x y:Str):(x++y).cps.toList=x.cps.toList++y.cps.toList:=by
 show (x.cps++y.cps).toList=_
 simp
theorem len_tl (x:Str):x.length=x.cps.toList.length:=rfl
theorem len_app (x y:Str):(x++y).length=x.length+y.length:=by rw [len_tl,SJ,List.length_append];rfl
theorem LK {x y:Str} (h:al x) (k:al y):al (x++y):=fun c hc=>by
 rw [SJ] at hc
 exact (List.mem_append.mp hc).elim (h c) (k c)
theorem Tq {c:Nat} (h:c∈abc.cps.toList):al ⟨#[c]⟩:=fun d hd=>by
 simp at hd
 rw [hd];exact h
theorem JT:∀ gs:List Nat,TL.joinL [] (gs.map fun c=>[c])=gs
 | []=>rfl
 | [c]=>rfl
 | c::d::r=>by
  have:=JT (d::r)
  simp only [List.map_cons,TL.joinL,List.nil_append] at this ⊢
  rw [this];rfl
theorem adx (gs:List Nat):(Txt.join (Str.ofString "") (gs.map fun c=>(⟨#[c]⟩:Str))).cps.toList=gs:=by
 rw [TL.join_eq]
 have:=TL.tl_join (Str.ofString "") (gs.map fun c=>(⟨#[c]⟩:Str))
 have e:TL.tl (Str.ofString "")=[]:=by decide
 rw [e,List.map_map] at this
 exact this.trans (JT gs)
theorem Df:abc.cps.toList.length=26:=by decide
theorem letter (m:Int):∃ c∈abc.cps.toList,abc.cps.toList[(m%26).toNat]? =some c:=by
 have h0:=Int.emod_nonneg m (show (26:Int)≠0 by omega)
 have h1:=Int.emod_lt_of_pos m (show (0:Int)<26 by omega)
 have:(m%26).toNat<abc.cps.toList.length:=by rw [Df];omega
 exact ⟨_,List.getElem_mem this,List.getElem?_eq_getElem this⟩
theorem aan {S:Hs} {m:Int} {c:Nat} (h:abc.cps.toList[(m%26).toNat]? =some c):dM S (.str abc) (.int (m%26))=some (.str ⟨#[c]⟩):=by
 have h0:=Int.emod_nonneg m (show (26:Int)≠0 by omega)
 have:=ix_str (S:=S) (z:=abc) (i:=(m%26).toNat) (by rw [len_tl,Df];omega) h
 rwa [Int.toNat_of_nonneg h0] at this
theorem aiT {f:Vl→Option Vl}:∀ (xs:List Vl),(∀ x∈xs,∃ c∈abc.cps.toList,f x=some (.str ⟨#[c]⟩))→∃ gs:List Nat,xs.filterMap f=gs.map (fun c=>Vl.str ⟨#[c]⟩)∧gs.length=xs.length∧∀ c∈gs,c∈abc.cps.toList
 | [],_=>⟨[],rfl,rfl,fun c h=>by simp at h⟩
 | x::xs,h=>by
  obtain ⟨c,hc,e⟩:=h x (List.mem_cons_self ..)
  obtain ⟨gs,e1,e2,e3⟩:=aiT xs fun y hy=>h y (List.mem_cons_of_mem _ hy)
  refine ⟨c::gs,by simp [e,e1],by simp [e2],fun d hd=> ?_⟩
  rcases List.mem_cons.mp hd with rfl | hd
  ·exact hc
  ·exact e3 d hd
theorem Yd (gs:List Nat):uC (gs.map fun c=>Vl.str ⟨#[c]⟩)=some (gs.map fun c=>(⟨#[c]⟩:Str)):=by
 induction gs with
 | nil=>rfl
 | cons c gs ih=>simp only [List.map_cons,uC,ih,Option.map_some]
theorem Kr:∀ zs:List Str,uC (zs.map Vl.str)=some zs
 | []=>rfl
 | z::zs=>by simp only [List.map_cons,uC,Kr zs,Option.map_some]
theorem Zu (gs:List Nat):((gs.map fun c=>(⟨#[c]⟩:Str)).map (·.length)).sum=gs.length:=by
 induction gs with
 | nil=>rfl
 | cons c gs ih=>
  simp only [List.map_cons,List.sum_cons,ih,List.length_cons]
  have:(⟨#[c]⟩:Str).length=1:=rfl
  omega
theorem join_ones {S:Hs} {gs:List Nat} (h:gs.length≤1000):zu .join S (Str.ofString "") (.lst (gs.map fun c=>Vl.str ⟨#[c]⟩))=some (.str (Txt.join (Str.ofString "") (gs.map fun c=>(⟨#[c]⟩:Str)))):=by
 unfold zu
 simp only [cV,Option.bind_some,Yd]
 have e:(Str.ofString "").length=0:=by decide
 rw [if_pos (by rw [Zu,e];omega)]
theorem aak {z:Str} {p:Nat}:(cutS z none (some (p:Int))).cps.toList=z.cps.toList.take p:=by
 unfold cutS
 rw [HT.sIx_none,HT.sIx_nat]
 simp only [List.drop_zero,Nat.sub_zero]
 rw [len_tl,Nat.min_comm,← List.take_take]
 simp only [List.take_of_length_le (show (z.cps.toList.take p).length≤z.cps.toList.length by rw [List.length_take];exact Nat.min_le_right _ _)]
theorem ZD {z:Str} {p:Nat}:(cutS z (some (p:Int)) none).cps.toList=z.cps.toList.drop p:=by
 unfold cutS
 rw [HT.sIx_none,HT.sIx_nat,len_tl]
 simp only
 by_cases h:p≤z.cps.toList.length
 ·rw [Nat.min_eq_left h,List.take_of_length_le (by simp)]
 ·rw [Nat.min_eq_right (by omega),List.drop_length,List.drop_of_length_le (by omega)]
  simp
theorem ag1 {z:Str} {p:Nat} (h:z.length≤1000):Dy (.str z) none (some (p:Int))=some (.str (cutS z none (some (p:Int)))):=if_pos (Nat.le_trans h (by decide))
theorem afS {z:Str} {p:Nat} (h:z.length≤1000):Dy (.str z) (some (p:Int)) none=some (.str (cutS z (some (p:Int)) none)):=if_pos (Nat.le_trans h (by decide))
theorem El {S:Hs} {v:Vl} {fs:List Str} {z:Str} (h:cV S v=some (fs.map .str)) (hd:aX S v=none) (hv:∀ y,v≠.str y):lX S (.str z) v=some (decide (z∈fs)):=by
 have hf:(fs.map Vl.str).all Vl.flat=true:=List.all_eq_true.mpr fun x hx=>by
  obtain ⟨y,_,rfl⟩:=List.mem_map.mp hx
  rfl
 have ha:((fs.map Vl.str).any fun y=>eqF y (.str z))=decide (z∈fs):=by
  rw [Bool.eq_iff_iff,List.any_eq_true,decide_eq_true_eq]
  constructor
  ·rintro ⟨x,hx,e⟩
   obtain ⟨y,hy,rfl⟩:=List.mem_map.mp hx
   simp only [eqF,beq_iff_eq] at e
   rw [← e];exact hy
  ·intro hz
   exact ⟨.str z,List.mem_map_of_mem hz,by simp only [eqF,beq_self_eq_true]⟩
 unfold lX
 cases v with
 | str y=>exact absurd rfl (hv y)
 | _=>
  simp only [hd,h]
  rw [hf]
  simp only [Vl.flat,Bool.and_self,if_true,ha]
theorem yZ {S:Hs} {fs:List Str} {z:Str} {T:Hs}:lX (S++[.lst (fs.map .str)]++T) (.str z) (.ref S.length)=some (decide (z∈fs)):=by
 have e:(S++[Ob.lst (fs.map .str)]++T)[S.length]? =some (.lst (fs.map .str)):=by rw [List.append_assoc,List.getElem?_append_right (Nat.le_refl _)];simp
 exact El (by simp only [cV,e]) (by simp only [aX,e]) (fun y h=>by cases h)
theorem KD {α β:Type} {f:α→β}:∀ {xs:List α},(∀ a b,f a=f b→a=b)→xs.Nodup→(xs.map f).Nodup
 | [],_,_=>by simp
 | x::xs,h,k=>by
  rw [List.nodup_cons] at k
  rw [List.map_cons,List.nodup_cons]
  refine ⟨fun q=> ?_,KD h k.2⟩
  obtain ⟨y,hy,e⟩:=List.mem_map.mp q
  rw [h y x e] at hy
  exact k.1 hy
theorem aaS {a b c d:Int} {ds:List Int} (h:Xp [a,b,c,d] ds):∃ w x y z,ds=[w,x,y,z]∧(0≤w∧w<a)∧(0≤x∧x<b)∧(0≤y∧y<c)∧(0≤z∧z<d):=by
 have hl:=h.len
 match ds,hl with
 | [w,x,y,z],_=>exact ⟨w,x,y,z,rfl,h.at_ 0 _ _ rfl rfl,h.at_ 1 _ _ rfl rfl,h.at_ 2 _ _ rfl rfl,h.at_ 3 _ _ rfl rfl⟩
theorem ajB {a b:Int} {ds:List Int} (h:Xp [a,b] ds):∃ w x,ds=[w,x]∧(0≤w∧w<a)∧(0≤x∧x<b):=by
 have hl:=h.len
 match ds,hl with
 | [w,x],_=>exact ⟨w,x,rfl,h.at_ 0 _ _ rfl rfl,h.at_ 1 _ _ rfl rfl⟩
end K04
namespace K04
open PySem L2 Oz
def lf (j one two:Int):Vl→Option Vl
 | .int i=>(abc.cps.toList[((one+i* two+3* j)%26).toNat]?).map fun c=>.str ⟨#[c]⟩
 | _=>none
theorem TJ (j one two:Int) {sz:Nat}:∀ x∈jg 0 sz,∃ i:Nat,i<sz∧x=.int i:=fun x hx=>by
 obtain ⟨i,hi⟩:=List.getElem?_of_mem hx
 exact ⟨i,rP hi⟩
theorem aa9 (j one two:Int) (i:Nat):∃ c∈abc.cps.toList,abc.cps.toList[((one+(i:Int)* two+3* j)%26).toNat]? =some c∧lf j one two (.int i)=some (.str ⟨#[c]⟩):=by
 obtain ⟨c,hc,e⟩:=letter (one+(i:Int)* two+3* j)
 have h:lf j one two (.int i)=(abc.cps.toList[((one+(i:Int)* two+3* j)%26).toNat]?).map fun c=>.str ⟨#[c]⟩:=rfl
 exact ⟨c,hc,e,h.trans (congrArg (Option.map fun c=>Vl.str ⟨#[c]⟩) e)⟩
theorem adu (n:Nat) {a0 a1 a2 a3 a9 a10 a11 a12 a13 a14 a15 a16:Option Vl} (j one two:Int) (sz:Nat) (h1:0≤two) (h2:two<26) (S:Hs) (i c:Nat) (e:abc.cps.toList[((one+(i:Int)* two+3* j)%26).toNat]? =some c) :
  ev (Mn n) (.idx (.var 4) (.bin .Mod (.bin .Add (.bin .Add (.var 6) (.bin .Mult (.var 11) (.var 7))) (.bin .Mult (.cst (.int 3)) (.var 5))) (.cst (.int 26)))) [a0,a1,a2,a3,some (.str abc),some (.int j),some (.int one),some (.int two),some (.int sz),a9,a10,some (.int i),a12,a13,a14,a15,a16] S=.ok (.str ⟨#[c]⟩) S:=by
 exact du (v_var rfl) (aW (aW (aW (v_var rfl) (aW (v_var rfl) (v_var rfl) (GP (by omega) (by omega))) (eZ _ _)) (aW aj (v_var rfl) (qL (by omega) (by omega))) (eZ _ _)) aj (jy (by omega))) (aan e)
theorem Yu (n:Nat) {a0 a1 a2 a3 a9 a10 a11 a12 a13 a14 a15 a16:Option Vl} (j one two:Int) (sz:Nat) (h1:0≤two) (h2:two<26) (hs:sz≤5) (S:Hs):∃ gs:List Nat,gs.length=sz∧(∀ c∈gs,c∈abc.cps.toList)∧
  d9 (Mn n) JP [a0,a1,a2,a3,some (.str abc),some (.int j),some (.int one),some (.int two),some (.int sz),a9,a10,a11,a12,a13,a14,a15,a16] S=.ok (.lst (gs.map fun c=>Vl.str ⟨#[c]⟩)) S:=by
 have es:pC (Mn n) (.xY (.var 8)) [a0,a1,a2,a3,some (.str abc),some (.int j),some (.int one),some (.int two),some (.int sz),a9,a10,a11,a12,a13,a14,a15,a16] S=.ok ([],jg 0 sz) S:=mO (by simp only [ev,List.getElem?_cons_zero,List.getElem?_cons_succ]) (by omega)
 obtain ⟨gs,e1,e2,e3⟩:=aiT (f:=lf j one two) (jg 0 sz) fun x hx=>by
  obtain ⟨i,_,rfl⟩:=TJ j one two x hx
  obtain ⟨c,hc,_,e⟩:=aa9 j one two i
  exact ⟨c,hc,e⟩
 refine ⟨gs,by rw [e2,iw],e3,?_⟩
 rw [← e1]
 refine Nv (M:=Mn n) (own:=[11]) (t:=.nm 11) [] (jg 0 sz) (lf j one two) es (aU S) (by rw [iw];omega) (fun x hx y hy=> ?_) (fun x hx aQ ha=> ?_)
 ·obtain ⟨i,_,rfl⟩:=TJ j one two x hx
  obtain ⟨c,hc,_,e⟩:=aa9 j one two i
  rw [e] at hy
  cases hy
  simp only [Vl.nr]
 ·obtain ⟨i,_,rfl⟩:=TJ j one two x hx
  obtain ⟨c,hc,e,e5⟩:=aa9 j one two i
  exact ⟨_,_,rfl,adu n (a11:=none) j one two sz h1 h2 _ i c e,e5⟩
def tails:List Nat:=(Str.ofString "ijklmnopqrst").cps.toList
def tries (c:Nat):List Str:=tails.map fun t=>Str.ofString "z"++⟨#[c]⟩++⟨#[t]⟩
theorem Qy (c:Nat):(tries c).Nodup:=KD (fun a b h=>by
 have:=congrArg (fun z:Str=>z.cps.toList) h
 simp only [SJ] at this
 have:=List.append_cancel_left this
 simpa using this) (by decide)
theorem Yh (c:Nat):(tries c).length=12:=by
 unfold tries
 rw [List.length_map];decide
theorem Ua {c:Nat} (hc:c∈abc.cps.toList):∀ z∈tries c,yt z:=fun z hz=>by
 obtain ⟨t,ht,rfl⟩:=List.mem_map.mp hz
 have hl:(Str.ofString "z"++⟨#[c]⟩++⟨#[t]⟩:Str).length=3:=by
  rw [len_app,len_app]
  have e1:(Str.ofString "z").length=1:=by decide
  have e2:(⟨#[c]⟩:Str).length=1:=rfl
  have e3:(⟨#[t]⟩:Str).length=1:=rfl
  omega
 have hz:al (Str.ofString "z"):=by unfold al;decide
 have ht2:∀ t∈tails,t∈abc.cps.toList:=by decide
 exact ⟨by omega,by omega,LK (LK hz (Tq hc)) (Tq (ht2 t ht))⟩
theorem ac6 (n:Nat) {a0 a1 a2 a3 a6 a7 a8 a9 a10 a11 a12 a13 a14 a15 a16:Option Vl} {j:Nat} {c:Nat} (hc:abc.cps.toList[j]? =some c) (S:Hs) :
  d9 (Mn n) zL [a0,a1,a2,a3,some (.str abc),some (.int j),a6,a7,a8,a9,a10,a11,a12,a13,a14,a15,a16] S=.ok (.lst ((tries c).map .str)) S:=by
 have hx0:∀ S:Hs,dM S (.str abc) (.int j)=some (.str ⟨#[c]⟩):=fun S=>ix_str (by rw [len_tl,Df];omega) hc
 refine (Nv (M:=Mn n) (own:=[15]) (t:=.nm 15) [] (iI (Str.ofString "ijklmnopqrst")) (fun x=>match x with | .str t=>some (.str (Str.ofString "z"++⟨#[c]⟩++t)) | _=>none) (yo (by simp only [ev])) (aU S) (by rw [wV];decide) (fun x hx y hy=>by
   obtain ⟨d,hd,rfl⟩:=j7 hx
   cases hy
   simp only [Vl.nr]) (fun x hx aQ ha=>by
   obtain ⟨d,hd,rfl⟩:=j7 hx
   have z1:(Str.ofString "z").length=1:=by decide
   have z2:(⟨#[c]⟩:Str).length=1:=rfl
   have z3:(⟨#[d]⟩:Str).length=1:=rfl
   have q1:(Str.ofString "z").length+(⟨#[c]⟩:Str).length≤sizeLine:=iY (by omega)
   have q2:(Str.ofString "z"++⟨#[c]⟩:Str).length+(⟨#[d]⟩:Str).length≤sizeLine:=iY (by rw [len_app];omega)
   exact ⟨_,_,rfl,aW (aW aj (du (v_var rfl) (v_var rfl) (hx0 _)) (eU q1)) (v_var rfl) (eU q2),rfl⟩)).trans ?_
 congr 2
theorem aht (n:Nat) {a0 a1 a2 a4 a5 a6 a7 a8 a9 a10 a11 a12 a13 a15 a16:Option Vl} {ts fs:List Str} (hl:ts.length≤1000) (S:Hs) :
  d9 (Mn n) zU [a0,a1,a2,some (.ref S.length),a4,a5,a6,a7,a8,a9,a10,a11,a12,a13,some (.lst (ts.map .str)),a15,a16] (S++[.lst (fs.map .str)])=.ok (.lst ((ts.filter fun z=>decide (z∉fs)).map .str)) (S++[.lst (fs.map .str)]):=by
 refine (aci (M:=Mn n) (own:=[16]) (t:=.nm 16) [] (ts.map .str) (fun x=>match x with | .str t=>if t∈fs then none else some (.str t) | _=>none) (iG (v:=.lst (ts.map .str)) (S1:=S++[.lst (fs.map .str)]) (by simp only [ev,List.getElem?_cons_succ,List.getElem?_cons_zero]) rfl) (aU _) (by rw [List.length_map];omega) (fun x hx y hy=>by
   obtain ⟨d,hd,rfl⟩:=List.mem_map.mp hx
   simp only at hy
   split at hy
   ·cases hy
   ·cases hy;simp only [Vl.nr]) (fun x hx aQ ha=>by
   obtain ⟨d,hd,rfl⟩:=List.mem_map.mp hx
   refine ⟨_,rfl,?_⟩
   by_cases hm:d∈fs
   ·exact .inl ⟨aK (d:=false) (v_var rfl) (v_var rfl) (by simp only [cmpop,yZ,Option.map_some,decide_eq_true hm,Bool.not_true]),by simp only [if_pos hm]⟩
   ·exact .inr ⟨aK (d:=true) (v_var rfl) (v_var rfl) (by simp only [cmpop,yZ,Option.map_some,decide_eq_false hm,Bool.not_false]),.str d,v_var rfl,by simp only [if_neg hm]⟩)).trans ?_
 congr 2
 clear hl
 induction ts with
 | nil=>rfl
 | cons t ts ih=>
  by_cases hm:t∈fs
  ·rw [List.map_cons,List.filterMap_cons,List.filter_cons]
   simp only [if_pos hm,ih]
   simp [hm]
  ·rw [List.map_cons,List.filterMap_cons,List.filter_cons]
   simp only [if_neg hm,ih]
   simp [hm]
end K04
namespace K04
def gM (f:List Int) (t:Int):List Int:=if 0<t∧t∉f then f++[t] else f
def push (f:List Int) (ts:List Int):List Int:=ts.foldl gM f
def vN (nx:Int→List Int):Nat→Nat→List Int→List Int
 | 0,_,f=>f
 | n+1,k,f=>match f[k]? with
  | some x=>vN nx n (k+1) (push f (nx x))
  | none=>f
def dI (n:Nat):List Int:=(List.range n).map fun (i:Nat)=>(i:Int)+1
theorem yD (f:List Int):push f []=f:=rfl
theorem pM (f:List Int) (t:Int) (ts:List Int):push f (t::ts)=push (gM f t) ts:=rfl
theorem Jt {f:List Int} {t x:Int}:x∈gM f t↔x∈f∨(x=t∧0<x):=by
 unfold gM
 split
 ·rename_i h
  rw [List.mem_append,List.mem_singleton]
  constructor
  ·rintro (h1 | h1)
   ·exact .inl h1
   ·subst h1;exact .inr ⟨rfl,h.1⟩
  ·rintro (h1 | ⟨h1,_⟩)
   ·exact .inl h1
   ·exact .inr h1
 ·rename_i h
  constructor
  ·exact .inl
  ·rintro (h1 | ⟨h1,h2⟩)
   ·exact h1
   ·subst h1
    by_cases c:x∈f
    ·exact c
    ·exact absurd ⟨h2,c⟩ h
theorem nZ {x:Int}:∀ {ts f:List Int},x∈push f ts↔x∈f∨(x∈ts∧0<x)
 | [],f=>by simp [yD]
 | t::ts,f=>by
  rw [pM,nZ,Jt,List.mem_cons]
  constructor
  ·rintro ((h | ⟨h,h2⟩) | ⟨h,h2⟩)
   ·exact .inl h
   ·exact .inr ⟨.inl h,h2⟩
   ·exact .inr ⟨.inr h,h2⟩
  ·rintro (h | ⟨h | h,h2⟩)
   ·exact .inl (.inl h)
   ·exact .inl (.inr ⟨h,h2⟩)
   ·exact .inr ⟨h,h2⟩
theorem QV {f:List Int} {t:Int} (h:f.Nodup):(gM f t).Nodup:=by
 unfold gM
 split
 ·rename_i c
  rw [List.nodup_append]
  exact ⟨h,by simp,fun x hx y hy=>by
   rw [List.mem_singleton.mp hy]
   exact fun e=>c.2 (e ▸ hx)⟩
 ·exact h
theorem xK:∀ {ts f:List Int},f.Nodup→(push f ts).Nodup
 | [],f,h=>h
 | t::ts,f,h=>by
  rw [pM]
  exact xK (QV h)
theorem YB {f:List Int} {t:Int}:f<+:gM f t:=by
 unfold gM
 split
 ·exact List.prefix_append _ _
 ·exact List.prefix_refl _
theorem G7:∀ {ts f:List Int},f<+:push f ts
 | [],f=>List.prefix_refl _
 | t::ts,f=>YB.trans G7
section
variable {nx:Int→List Int}
theorem kE:∀ {m k:Nat} {f:List Int},f<+:vN nx m k f
 | 0,k,f=>List.prefix_refl _
 | m+1,k,f=>by
  unfold vN
  split
  ·exact G7.trans kE
  ·exact List.prefix_refl _
theorem JF:∀ {m k:Nat} {f:List Int},f.Nodup→(vN nx m k f).Nodup
 | 0,k,f,h=>h
 | m+1,k,f,h=>by
  unfold vN
  split
  ·exact JF (xK h)
  ·exact h
theorem Vp {P:Int→Prop} (hc:∀ x,P x→∀ t∈nx x,0<t→P t):∀ {m k:Nat} {f:List Int},(∀ x∈f,P x)→∀ x∈vN nx m k f,P x
 | 0,k,f,h,x,hx=>h x hx
 | m+1,k,f,h,x,hx=>by
  unfold vN at hx
  split at hx
  ·rename_i y e
   refine Vp hc (fun z hz=> ?_) x hx
   rcases nZ.mp hz with c | ⟨c,d⟩
   ·exact h z c
   ·exact hc y (h y (List.mem_of_getElem? e)) z c d
  ·exact h x hx
theorem aei {α:Type} {xs ys:List α} {i:Nat} {x:α} (h:xs<+:ys) (e:xs[i]? =some x):ys[i]? =some x:=by
 obtain ⟨t,rfl⟩:=h
 rw [List.getElem?_append_left (List.getElem?_eq_some_iff.mp e).1];exact e
theorem Ey:∀ {m k:Nat} {f:List Int},(vN nx m k f).length≤k+m→∀ (i:Nat) (x:Int),k≤i→(vN nx m k f)[i]? =some x→∀ t∈nx x,0<t→t∈vN nx m k f
 | 0,k,f,hl,i,x,hi,e,t,ht,h0=>by
  have:=(List.getElem?_eq_some_iff.mp e).1
  unfold vN at hl this
  omega
 | m+1,k,f,hl,i,x,hi,e,t,ht,h0=>by
  unfold vN at hl e ⊢
  split at e
  ·rename_i y ey
   rw [ey] at hl
   simp only at hl ⊢
   by_cases c:i=k
   ·subst c
    have e2:=aei (G7.trans kE) ey (ys:=vN nx m (i+1) (push f (nx y)))
    rw [e2] at e
    cases e
    exact (kE.subset) (nZ.mpr (.inr ⟨ht,h0⟩))
   ·exact Ey (by omega) i x (by omega) e t ht h0
  ·rename_i en
   have:=(List.getElem?_eq_some_iff.mp e).1
   have:=List.getElem?_eq_none_iff.mp en
   omega
theorem Ka:∀ {m k d:Nat} {f:List Int},(vN nx (m+d) k f).length≤k+m→vN nx m k f=vN nx (m+d) k f
 | 0,k,d,f,h=>by
  have p:f<+:vN nx (0+d) k f:=kE
  have hl:=p.length_le
  have en:f[k]? =none:=List.getElem?_eq_none (by omega)
  cases d with
  | zero=>rfl
  | succ d=>
   show f=vN nx (0+(d+1)) k f
   rw [show 0+(d+1)=(0+d)+1 by omega]
   unfold vN
   rw [en]
 | m+1,k,d,f,h=>by
  rw [show m+1+d=(m+d)+1 by omega] at h ⊢
  unfold vN at h ⊢
  split at h
  ·rename_i y ey
   exact Ka (by omega)
  ·rfl
structure Ren (P:Int→Prop) (g:Int→Int):Prop where
 inj:∀ a b,P a→P b→g a=g b→a=b
 pos:∀ a,P a→0<g a
 neg:∀ a,a≤0→g a≤0
theorem Wc {P:Int→Prop} {g:Int→Int} (r:Ren P g) {f:List Int} (hf:∀ x∈f,P x) {t:Int} (ht:P t):g t∈f.map g↔t∈f:=by
 constructor
 ·intro h
  obtain ⟨y,hy,e⟩:=List.mem_map.mp h
  rw [← r.inj y t (hf y hy) ht e];exact hy
 ·exact fun h=>List.mem_map.mpr ⟨t,h,rfl⟩
theorem Zd {P:Int→Prop} {g:Int→Int} (r:Ren P g) {f:List Int} (hf:∀ x∈f,P x) {t:Int} (ht:0<t→P t):gM (f.map g) (g t)=(gM f t).map g:=by
 unfold gM
 by_cases c:0<t
 ·have pt:=ht c
  have c2:=r.pos t pt
  by_cases d:t∈f
  ·rw [if_neg (fun z=>z.2 ((Wc r hf pt).mpr d)),if_neg (fun z=>z.2 d)]
  ·rw [if_pos ⟨c2,fun z=>d ((Wc r hf pt).mp z)⟩,if_pos ⟨c,d⟩,List.map_append,List.map_cons,List.map_nil]
 ·have c2:=r.neg t (by omega)
  rw [if_neg (by omega),if_neg (by omega)]
theorem yM {P:Int→Prop} {g:Int→Int} (r:Ren P g):∀ {ts f:List Int},(∀ x∈f,P x)→(∀ t∈ts,0<t→P t)→push (f.map g) (ts.map g)=(push f ts).map g
 | [],f,_,_=>rfl
 | t::ts,f,hf,ht=>by
  rw [List.map_cons,pM,pM,Zd r hf (ht t List.mem_cons_self)]
  refine yM r (fun x hx=> ?_) fun y hy=>ht y (List.mem_cons_of_mem _ hy)
  rcases Jt.mp hx with c | ⟨c,d⟩
  ·exact hf x c
  ·subst c;exact ht x List.mem_cons_self d
theorem MJ {P:Int→Prop} {g:Int→Int} {nx':Int→List Int} (r:Ren P g) (hc:∀ x,P x→∀ t∈nx x,0<t→P t) (hn:∀ x,P x→nx' (g x)=(nx x).map g):∀ {m k:Nat} {f:List Int},(∀ x∈f,P x)→vN nx' m k (f.map g)=(vN nx m k f).map g
 | 0,k,f,_=>rfl
 | m+1,k,f,hf=>by
  unfold vN
  rw [List.getElem?_map]
  cases e:f[k]? with
  | none=>rfl
  | some x=>
   have px:=hf x (List.mem_of_getElem? e)
   simp only [Option.map_some]
   rw [hn x px,yM r hf (hc x px)]
   refine MJ r hc hn fun y hy=> ?_
   rcases nZ.mp hy with c | ⟨c,d⟩
   ·exact hf y c
   ·exact hc x px y c d
end
theorem oh (n:Nat):(dI n).length=n:=by simp [dI]
theorem CZ {n i:Nat} (h:i<n):(dI n)[i]? =some ((i:Int)+1):=by
 unfold dI
 rw [List.getElem?_map,List.getElem?_range h];rfl
theorem yK {n:Nat} {x:Int}:x∈dI n↔1≤x∧x≤n:=by
 unfold dI
 rw [List.mem_map]
 constructor
 ·rintro ⟨i,hi,rfl⟩
  have:=List.mem_range.mp hi
  omega
 ·rintro ⟨h1,h2⟩
  exact ⟨(x - 1).toNat,List.mem_range.mpr (by omega),by omega⟩
theorem Ud (n:Nat):(dI n).Nodup:=by
 unfold dI
 refine List.Pairwise.map _ (fun a b h e=>h (by omega)) List.nodup_range
theorem Af {α:Type} [DecidableEq α]:∀ {xs ys:List α},xs.Nodup→(∀ x∈xs,x∈ys)→xs.length≤ys.length
 | [],ys,_,_=>Nat.zero_le _
 | x::xs,ys,h,k=>by
  obtain ⟨h1,h2⟩:=List.nodup_cons.mp h
  have hx:=k x List.mem_cons_self
  have:=Af (ys:=ys.erase x) h2 fun y hy=>(List.mem_erase_of_ne (fun e:y=x=>h1 (e ▸ hy))).mpr (k y (List.mem_cons_of_mem _ hy))
  rw [List.length_erase_of_mem hx] at this
  have:0<ys.length:=List.length_pos_of_mem hx
  simp only [List.length_cons];omega
theorem aea {n:Nat} {f:List Int} (h:f.Nodup) (k:∀ x∈f,1≤x∧x≤n):f.length≤n:=by
 have:=Af h fun x hx=>yK.mpr (k x hx)
 rwa [oh] at this
def anew (o:List Int) (t:Int):Int:=if 0<t then (o.idxOf t:Int)+1 else t
theorem ab8 {o:List Int} (h:∀ x∈o,0<x):Ren (fun x=>x∈o) (anew o) where
 inj:=fun a b ha hb e=>by
  unfold anew at e
  rw [if_pos (h a ha),if_pos (h b hb)] at e
  have la:=List.idxOf_lt_length_of_mem ha
  have lb:=List.idxOf_lt_length_of_mem hb
  have e2:o.idxOf a=o.idxOf b:=by omega
  have g1:=List.getElem_idxOf la
  have g2:=List.getElem_idxOf lb
  simp only [e2] at g1
  exact g1.symm.trans g2
 pos:=fun a ha=>by
  unfold anew
  rw [if_pos (h a ha)];omega
 neg:=fun a ha=>by
  unfold anew
  rw [if_neg (by omega)];exact ha
theorem Nh {o:List Int} (nd:o.Nodup) {i:Nat} {x:Int} (e:o[i]? =some x):o.idxOf x=i:=by
 have hx:=List.mem_of_getElem? e
 have l:=List.idxOf_lt_length_of_mem hx
 have g:=List.getElem_idxOf l
 have g2:o[o.idxOf x]? =some x:=by rw [List.getElem?_eq_getElem l,g]
 exact (List.getElem?_inj l nd).mp (g2.trans e.symm)
theorem abt {o:List Int} (nd:o.Nodup) (h:∀ x∈o,0<x):o.map (anew o)=dI o.length:=by
 apply List.ext_getElem?
 intro i
 rw [List.getElem?_map]
 by_cases c:i<o.length
 ·rw [CZ c,List.getElem?_eq_getElem c]
  simp only [Option.map_some]
  congr 1
  unfold anew
  rw [if_pos (h _ (List.getElem_mem c)),Nh nd (List.getElem?_eq_getElem c)]
 ·rw [List.getElem?_eq_none (by omega),List.getElem?_eq_none (by rw [oh];omega)];rfl
end K04
namespace K04
open PySem L2 Oz
theorem abp {x:Int} (h:0≤x):∃ n:Nat,x=n:=⟨x.toNat,by omega⟩
theorem adJ {gs:List Nat} {c p:Nat} {R:Str} (hR:R.cps.toList=gs) (hg:∀ d∈gs,d∈abc.cps.toList) (hc:c∈abc.cps.toList) (h5:gs.length≤5):yt (cutS R none (some (p:Int))++⟨#[c]⟩++cutS R (some (p:Int)) none):=by
 have l1:(⟨#[c]⟩:Str).length=1:=rfl
 have l2:(cutS R none (some (p:Int))).length+(cutS R (some (p:Int)) none).length=gs.length:=by
  rw [len_tl,len_tl,aak,ZD,hR,List.length_take,List.length_drop];omega
 refine ⟨by rw [len_app,len_app];omega,by rw [len_app,len_app];omega,LK (LK (fun d hd=> ?_) (Tq hc)) (fun d hd=> ?_)⟩
 ·rw [aak,hR] at hd;exact hg d (List.mem_of_mem_take hd)
 ·rw [ZD,hR] at hd;exact hg d (List.mem_of_mem_drop hd)
def sh (s:Vl) (k many:Int) (r:Nat) (a5 a6 a7 a8 a9 a10 a12 a13 a14:Option Vl):Sg:=[some s,some (.int k),some (.int many),some (.ref r),some (.str abc),a5,a6,a7,a8,a9,a10,none,a12,a13,a14,none,none]
theorem Tp (n:Nat) (ns:List Int) {k i:Nat} {many:Int} {fs:List Str} {S:Hs} (hS:NR S) (hl:fs.length=i) (h5:i≤5) (hn:fs.Nodup) (a6 a7 a8 a9 a10 a12 a13 a14:Option Vl) :
  ∃ z b6 b7 b8 b9 b10 Ca Br BL,yt z∧z∉fs∧exec (Mn (n+2)) pK (sh (zs ns) k many S.length (some (.int i)) a6 a7 a8 a9 a10 a12 a13 a14) (S++[.lst (fs.map .str)])=.nx (sh (zs ns) k many S.length (some (.int i)) b6 b7 b8 b9 b10 Ca Br BL) (S++[.lst ((fs++[z]).map .str)]):=by
 have hT:NR (S++[.lst (fs.map .str)]):=hS.one (lH fs)
 obtain ⟨ds,hd,hc⟩:=uv n ns (k:=k+i%2) (sizes:=[26,26,6,5]) (by decide) (by decide) hT
 obtain ⟨one,two,size,place,rfl,⟨o0,o1⟩,⟨t0,t1⟩,⟨s0,s1⟩,⟨p0,p1⟩⟩:=aaS hd
 obtain ⟨sz,rfl⟩:=abp s0
 obtain ⟨pl,rfl⟩:=abp p0
 have hk:((k+i%2:Nat):Int)=(k:Int)+(i:Int)%2:=by omega
 rw [hk] at hc
 obtain ⟨gs,g1,g2,g3⟩:=Yu (n+2) (a0:=some (zs ns)) (a1:=some (.int k)) (a2:=some (.int many)) (a3:=some (.ref S.length)) (a9:=some (.int pl)) (a10:=a10) (a11:=none) (a12:=a12) (a13:=a13) (a14:=a14) (a15:=none) (a16:=none) i one two sz t0 t1 (by omega) (S++[.lst (fs.map .str)])
 obtain ⟨c,c1,c2⟩:=letter (one+7* i+11)
 obtain ⟨R,hJ,hR⟩:∃ R:Str,zu .join (S++[.lst (fs.map .str)]) (Str.ofString "") (.lst (gs.map fun c=>Vl.str ⟨#[c]⟩))=some (.str R)∧R.cps.toList=gs:=⟨_,join_ones (by omega),adx gs⟩
 have hW:=adJ (p:=pl) hR g2 c1 (by omega)
 have hRl:R.length≤1000:=by rw [len_tl,hR];omega
 have tot:=hW.hi
 have q1:(cutS R none (some (pl:Int))).length+(⟨#[c]⟩:Str).length≤sizeLine:=iY (by
  rw [len_app,len_app] at tot;omega)
 have q2:(cutS R none (some (pl:Int))++⟨#[c]⟩:Str).length+(cutS R (some (pl:Int)) none).length≤sizeLine:=iY (by
  rw [len_app] at tot;omega)
 obtain ⟨W,hWe⟩:∃ W,W=cutS R none (some (pl:Int))++⟨#[c]⟩++cutS R (some (pl:Int)) none:=⟨_,rfl⟩
 rw [← hWe] at hW
 have hap:∀ z:Str,KJ .append (fs.map Vl.str) [.str z]=some (.non,(fs++[z]).map Vl.str):=fun z=>by
  rw [kh (by rw [List.length_map];omega),List.map_append];rfl
 have ae9:(S++[Ob.lst (fs.map .str)])[S.length]? =some (.lst (fs.map .str)):=List.getElem?_concat_length
 -- up to the test
 have head:∀ r:Out,exec (Mn (n+2)) (.cons (.ite (.cmp .In (.var 13) (.var 3)) (.cons (.asg (.nm 14) (.inl zL)) (.cons (.asg (.nm 13) (.idx (.inl zU) (.cst (.int 0)))) .nil)) .nil) (.cons (.ex (.mut .append (.var 3) (.cons (.var 13) .nil))) .nil)) (sh (zs ns) k many S.length (some (.int i)) (some (.int one)) (some (.int two)) (some (.int sz)) (some (.int pl)) (some (.str R)) (some (.str ⟨#[c]⟩)) (some (.str W)) a14) (S++[.lst (fs.map .str)])=r→
   exec (Mn (n+2)) pK (sh (zs ns) k many S.length (some (.int i)) a6 a7 a8 a9 a10 a12 a13 a14) (S++[.lst (fs.map .str)])=r:=fun r hr=>by
  unfold pK
  refine aq (bz (.lst [.int one,.int two,.int sz,.int pl]) _ (bJ (aa (v_var rfl) (aa (aW (v_var rfl) (aW (v_var rfl) aj (jy (by omega))) (eZ _ _)) (aa (dw (lL (aa aj (aa aj (aa aj (aa aj az)))) (by decide))) az))) hc) rfl) ?_
  refine aq (bz _ _ (xN aj (dw g3) hJ) rfl) ?_
  refine aq (bz _ _ (du (v_var rfl) (aW (aW (aW (v_var rfl) (aW aj (v_var rfl) (qL (by omega) (by omega))) (eZ _ _)) aj (eZ _ _)) aj (jy (by omega))) (aan c2)) rfl) ?_
  refine aq (bz (.str W) _ (by rw [hWe];exact aW (aW (BK (v_var rfl) qK (qH (v_var rfl)) (ag1 hRl)) (v_var rfl) (eU q1)) (BK (v_var rfl) (qH (v_var rfl)) qK (afS hRl)) (eU q2)) rfl) ?_
  exact hr
 by_cases hm:W∈fs
 ·have hi:i<abc.cps.toList.length:=by rw [Df];omega
  obtain ⟨d,hd1⟩:∃ d,abc.cps.toList[i]? =some d:=⟨_,List.getElem?_eq_getElem hi⟩
  have dm:d∈abc.cps.toList:=List.mem_of_getElem? hd1
  have tl:=Yh d
  cases hf:(tries d).filter (fun z=>decide (z∉fs)) with
  | nil=>
   have:=Af (Qy d) (ys:=fs) fun x hx=>by
    have:=List.filter_eq_nil_iff.mp hf x hx
    simpa using this
   omega
  | cons z rest=>
   have zm:z∈(tries d).filter (fun z=>decide (z∉fs)):=by rw [hf];exact List.mem_cons_self ..
   rw [List.mem_filter,decide_eq_true_eq] at zm
   have et:=ac6 (n+2) (a0:=some (zs ns)) (a1:=some (.int k)) (a2:=some (.int many)) (a3:=some (.ref S.length)) (a6:=some (.int one)) (a7:=some (.int two)) (a8:=some (.int sz)) (a9:=some (.int pl)) (a10:=some (.str R)) (a11:=none) (a12:=some (.str ⟨#[c]⟩)) (a13:=some (.str W)) (a14:=a14) (a15:=none) (a16:=none) hd1 (S++[.lst (fs.map .str)])
   have ef:=aht (n+2) (a0:=some (zs ns)) (a1:=some (.int k)) (a2:=some (.int many)) (a4:=some (.str abc)) (a5:=some (.int i)) (a6:=some (.int one)) (a7:=some (.int two)) (a8:=some (.int sz)) (a9:=some (.int pl)) (a10:=some (.str R)) (a11:=none) (a12:=some (.str ⟨#[c]⟩)) (a13:=some (.str W)) (a15:=none) (a16:=none) (ts:=tries d) (fs:=fs) (by omega) S
   rw [hf] at ef
   refine ⟨z,some (.int one),some (.int two),some (.int sz),some (.int pl),some (.str R),some (.str ⟨#[c]⟩),some (.str z),some (.lst ((tries d).map .str)),Ua dm z zm.1,zm.2,head _ ?_⟩
   refine aq (cQ _ (aK (d:=true) (v_var rfl) (v_var rfl) ?_) (aq (bz _ _ (dw et) rfl) (aq (bz (.str z) _ (du (dw ef) aj (jT (i:=0) rfl)) rfl) aM))) ?_
   ·have:=yZ (S:=S) (fs:=fs) (z:=W) (T:=[])
    rw [List.append_nil,decide_eq_true hm] at this
    exact this
   ·refine aq (M9 _ _ (Bt (v_var rfl) (ju _ _) (aa (v_var rfl) az) ae9 (hap z))) ?_
    rw [iT]
    exact aM
 ·refine ⟨W,some (.int one),some (.int two),some (.int sz),some (.int pl),some (.str R),some (.str ⟨#[c]⟩),some (.str W),a14,hW,hm,head _ ?_⟩
  refine aq (bD _ (aK (d:=false) (v_var rfl) (v_var rfl) ?_) aM) ?_
  ·have:=yZ (S:=S) (fs:=fs) (z:=W) (T:=[])
   rw [List.append_nil,decide_eq_false hm] at this
   exact this
  ·refine aq (M9 _ _ (Bt (v_var rfl) (ju _ _) (aa (v_var rfl) az) ae9 (hap W))) ?_
   rw [iT]
   exact aM
structure Names (fs:List Str):Prop where
 w:∀ z∈fs,yt z
 nd:fs.Nodup
theorem abq (n:Nat) (ns:List Int) {k many:Nat} (h6:many≤6) {S:Hs} (hS:NR S):∃ fs:List Str,Names fs∧fs.length=many∧(Mn (n+3)).cal "_law_names" [zs ns,.int k,.int many] S=.ok (.frs (.lst (fs.map .str))) S:=by
 obtain ⟨η',S',e1,fs,a5,a6,a7,a8,a9,a10,a12,a13,a14,f1,f2,e2,e3⟩:=ie (body:=fun η1 S2=>Oz.exec (Mn (n+2)) pK η1 S2) (t:=.nm 5) (lk:=[]) (xs:=jg 0 many) (η:=sh (zs ns) k many S.length none none none none none none none none none) (S:=S++[.lst []])
  (fun i η T=>∃ fs a5 a6 a7 a8 a9 a10 a12 a13 a14,fs.length=i∧Names fs∧T=S++[.lst (fs.map .str)]∧η=sh (zs ns) k many S.length a5 a6 a7 a8 a9 a10 a12 a13 a14)
  ⟨[],_,_,_,_,_,_,_,_,_,rfl,⟨fun z h=>by simp at h,List.nodup_nil⟩,rfl,rfl⟩ (fun _ _ _ _=>aU _)
  (fun i x η T ex ⟨fs,a5,a6,a7,a8,a9,a10,a12,a13,a14,q1,q2,q3,q4⟩=>by
   subst q3 q4
   obtain ⟨il,rfl⟩:=rP ex
   obtain ⟨z,b6,b7,b8,b9,b10,Ca,Br,BL,z1,z2,z3⟩:=Tp n ns (k:=k) (i:=i) (many:=many) hS q1 (by omega) q2.nd a6 a7 a8 a9 a10 a12 a13 a14
   refine ⟨_,rfl,_,_,.inl z3,fs++[z],_,_,_,_,_,_,_,_,_,by simp [q1],⟨fun y hy=> ?_,?_⟩,rfl,rfl⟩
   ·rcases List.mem_append.mp hy with hy | hy
    ·exact q2.w y hy
    ·simp at hy;rw [hy];exact z1
   ·rw [List.nodup_append]
    refine ⟨q2.nd,by simp,fun y hy w hw=> ?_⟩
    simp at hw
    rw [hw]
    intro e;subst e;exact z2 hy)
 subst e2 e3
 refine ⟨fs,f2,by rw [f1,iw],?_⟩
 rw [Py]
 refine uX (r:=0) (T:=[.lst (fs.map .str)]) rfl ?_ hS rfl (lH _)
 show exec (Mn (n+2)) Gn [some (zs ns),some (.int k),some (.int many),none,none,none,none,none,none,none,none,none,none,none,none,none,none] S=_
 unfold Gn
 refine aq (bz (.tup [.ref S.length,.str abc]) (S++[.lst []]) (iK (aa (m9 (lL az (by decide))) (aa aj az)) (show 2≤1000000 by decide)) rfl) ?_
 refine aq (jJ [] (jg 0 many) _ (mO (v_var rfl) (by omega)) e1) ?_
 exact bA (dJ _ _ (v_var rfl))
end K04
namespace K04
open PySem L2 Oz
section
variable {S:Hs} {a b a' b':Ob}
theorem g0:(S++[a,b])[S.length]? =some a:=by simp
theorem g1:(S++[a,b])[S.length+1]? =some b:=by simp
theorem s0:(S++[a,b]).set S.length a'=S++[a',b]:=by simp
theorem s1:(S++[a,b]).set (S.length+1) b'=S++[a,b']:=by simp
theorem nr2 (h:NR S) (ha:a.nr=true) (hb:b.nr=true):NR (S++[a,b]):=by
 have:=(h.one ha).one hb
 simpa using this
end
structure Sq (S0:Hs) (v:Vl) (xs:List Vl):Prop where
 seq:∀ {S:Hs},S0<+:S→cV S v=some xs
 walk:∃ lk,∀ {S:Hs},S0<+:S→lZ S v=some (lk,xs)∧cP lk S
 dct:∀ {S:Hs},S0<+:S→aX S v=none
 len:∀ {S:Hs},S0<+:S→ir .len S v=some (.int xs.length)
 ix:∀ {S:Hs},S0<+:S→∀ (i:Nat) x,xs[i]? =some x→dM S v (.int i)=some x
theorem ZQ (S:Hs) (xs:List Vl):Sq S (.tup xs) xs:=⟨fun _=>rfl,⟨[],fun _=>⟨rfl,aU _⟩⟩,fun _=>rfl,fun _=>rfl,fun _ _ _ h=>ix_tup h⟩
theorem vf {S0 S:Hs} {r:Nat} {o:Ob} (p:S0<+:S) (h:S0[r]? =some o):S[r]? =some o:=by
 obtain ⟨T,rfl⟩:=p
 rw [List.getElem?_append_left (List.getElem?_eq_some_iff.mp h).1];exact h
theorem ZX {S:Hs} {r:Nat} {xs:List Vl} (h:S[r]? =some (.lst xs)):Sq S (.ref r) xs:=
 ⟨fun p=>by simp only [cV,vf p h],⟨[(r,Ob.lst xs)],fun p=>⟨by simp only [lZ,vf p h],fun q hq=>by rw [List.mem_singleton.mp hq];exact vf p h⟩⟩,fun p=>by simp only [aX,vf p h],
  fun p=>by simp only [ir,aX,cV,vf p h,Option.map_some],fun p i x hx=>aie (vf p h) hx⟩
theorem Sq.up {S T:Hs} {v:Vl} {xs:List Vl} (h:Sq S v xs):Sq (S++T) v xs:=
 have q:∀ {U:Hs},S++T<+:U→S<+:U:=fun p=>(List.prefix_append _ _).trans p
 ⟨fun p=>h.seq (q p),let ⟨lk,w⟩:=h.walk;⟨lk,fun p=>w (q p)⟩,fun p=>h.dct (q p),fun p=>h.len (q p),fun p=>h.ix (q p)⟩
theorem p1 {S T:Hs}:S<+:S++T:=List.prefix_append _ _
theorem p2 {S T U:Hs}:S<+:S++T++U:=p1.trans p1
theorem p3 {S T U V:Hs}:S<+:S++T++U++V:=p2.trans p1
def bK (nm:cY):cY:=sortBy (·.1) nm
theorem JC:∀ nm:cY,U8 (valN nm)=some (nm.map fun p=>(p.1,Vl.int p.2))
 | []=>rfl
 | p::nm=>by
  have ih:=JC nm
  unfold valN at ih ⊢
  simp only [List.map_cons,U8,ih,Option.map_some]
theorem JG {S0 S:Hs} {v:Vl} {nm:cY} (h:Sq S0 v (valN nm)) (p:S0<+:S) (nd:(nm.map (·.1)).Nodup) (hl:nm.length<64):Ak S v=some (valN (bK nm)):=by
 unfold Ak
 rw [h.seq p]
 simp only [Option.bind_some,JC]
 rw [if_pos ⟨by rw [List.length_map];exact hl,by rw [List.map_map];exact nd⟩]
 congr 1
 rw [Gz,j6 (fun p:Str × Int=>p.1) (fun p=>(p.1,Vl.int p.2)) (·.1) (fun _=>rfl),List.map_map]
 rfl
theorem bZ (nm:cY):(bK nm).Perm nm:=gW _ nm
theorem Eb {nm:cY} (nd:(nm.map (·.1)).Nodup):((bK nm).map (·.1)).Nodup:=((bZ nm).map (·.1)).nodup_iff.mpr nd
def fH (it:Its) (x:Int):List Int:=match it[(x - 1).toNat]? with
 | some p=>p.2
 | none=>[]
def Ui (it:Its) (x:Int):Str:=match it[(x - 1).toNat]? with
 | some p=>p.1
 | none=>Str.empty
def ord (nm:cY) (it:Its):List Int:=vN (fH it) it.length 0 (push [] ((bK nm).map (·.2)))
structure Rx (nm:cY) (it:Its):Prop where
 nd:(nm.map (·.1)).Nodup
 n6:nm.length≤6
 i6:it.length≤250
 hi:∀ p∈it,∀ t∈p.2,-1≤t∧t≤it.length
 ht:∀ p∈nm,-1≤p.2∧p.2≤it.length
 h2:∀ p∈it,p.2.length≤2
abbrev U3 (n:Nat) (x:Int):Prop:=1≤x∧x≤n
theorem Rk {nm:cY} {it:Its} (h:Rx nm it) (x:Int):∀ t∈fH it x,-1≤t∧t≤it.length:=fun t ht=>by
 unfold fH at ht
 split at ht
 ·rename_i p e
  exact h.hi p (List.mem_of_getElem? e) t ht
 ·cases ht
theorem qD {nm:cY} {it:Its} (h:Rx nm it):∀ x∈ord nm it,U3 it.length x:=by
 refine Vp (P:=U3 it.length) (fun x _ t ht h0=>⟨by omega,(Rk h x t ht).2⟩) fun x hx=> ?_
 rcases nZ.mp hx with c | ⟨c,d⟩
 ·cases c
 ·obtain ⟨p,hp,rfl⟩:=List.mem_map.mp c
  exact ⟨by omega,(h.ht p ((bZ nm).mem_iff.mp hp)).2⟩
theorem HD {nm:cY} {it:Its}:(ord nm it).Nodup:=JF (xK List.nodup_nil)
theorem qI {nm:cY} {it:Its} (h:Rx nm it):(ord nm it).length≤it.length:=aea HD (qD h)
theorem Fv {it:Its} {x:Int} (h:U3 it.length x):∃ p,it[(x - 1).toNat]? =some p∧fH it x=p.2∧Ui it x=p.1:=by
 obtain ⟨h1,h2⟩:=h
 have hl:(x - 1).toNat<it.length:=by omega
 refine ⟨it[(x - 1).toNat],List.getElem?_eq_getElem hl,?_,?_⟩
 ·unfold fH;rw [List.getElem?_eq_getElem hl]
 ·unfold Ui;rw [List.getElem?_eq_getElem hl]
def Seen (f:List Int) (ks:List Key) (vs:List Vl):Prop:=dH vs=true∧ks.length≤f.length+2∧∀ t:Int,(ks.any fun j=>decide (j=Sum.inl t))=decide (t=0∨t= -1∨t∈f)
abbrev St (S:Hs) (f:List Int) (ks:List Key) (vs:List Vl):Hs:=S++[.lst (f.map .int),.dct ks vs]
theorem aeH {ks:List Key} {t:Int} (h:(ks.any fun j=>decide (j=Sum.inl t))=false):Sum.inl t∉ks:=fun z=>by
 rw [List.any_eq_false] at h
 exact h _ z (decide_eq_true rfl)
theorem Lg {M:aF} {η:Sg} {S:Hs} {f:List Int} {ks:List Key} {vs:List Vl} {t:Int} (h2:η[2]? =some (some (.ref S.length))) (h3:η[3]? =some (some (.ref (S.length+1)))) (h5:η[5]? =some (some (.int t))) (ht: -1≤t) (hf:f.length≤300) (h:Seen f ks vs) :
  ∃ zP vs',Seen (gM f t) zP vs'∧exec M oK η (St S f ks vs)=.nx η (St S (gM f t) zP vs'):=by
 obtain ⟨e1,e2,e3⟩:=h
 have mem:cmpop .NotIn (St S f ks vs) (.int t) (.ref (S.length+1))=some (!decide (t=0∨t= -1∨t∈f)):=by
  show (lX _ _ _).map not=_
  rw [aaV (ks:=ks) (vs:=vs) (by simp only [aX,g1]),e3 t];rfl
 by_cases c:0<t∧t∉f
 ·have d:decide (t=0∨t= -1∨t∈f)=false:=decide_eq_false (by rintro (z | z | z);omega;omega;exact c.2 z)
  rw [d] at mem
  have hp:gM f t=f++[t]:=if_pos c
  have nk:=aeH ((e3 t).trans d)
  refine ⟨ks++[Sum.inl t],vs++[.bl true],⟨oG e1 (by simp [dH,Vl.nr]),by rw [hp];simp;omega,fun u=> ?_⟩,?_⟩
  ·rw [hp,List.any_append,e3 u]
   by_cases q:u=t
   ·subst q;simp
   ·have q2:¬ (Sum.inl t:Key)=Sum.inl u:=fun z=>q (Sum.inl.inj z).symm
    simp [q,q2]
  ·refine aq (cQ _ (aK (v_var h5) (v_var h3) mem) (aq (rE aj (v_var h3) (v_var h5) (jP (kk:=Sum.inl t) g1 rfl (by omega))) (aq (M9 _ _ (Bt (k:=S.length) (ys:=f.map .int) (v_var h2) ?_ (aa (v_var h5) az) ?_ (kh (by rw [List.length_map];omega)))) aM))) ?_
   ·rw [s1];simp only [pZ,g0]
   ·rw [s1,g0]
   ·rw [s1,s0,uf nk,hp,aM]
    show _=Out.nx η (S++[Ob.lst ((f++[t]).map Vl.int),_])
    rw [List.map_append];rfl
 ·have d:decide (t=0∨t= -1∨t∈f)=true:=decide_eq_true (by
   by_cases q:t∈f
   ·exact .inr (.inr q)
   ·by_cases q2:0<t
    ·exact absurd ⟨q2,q⟩ c
    ·omega)
  rw [d] at mem
  have hp:gM f t=f:=if_neg c
  rw [hp]
  exact ⟨ks,vs,⟨e1,e2,e3⟩,aq (bD _ (aK (v_var h5) (v_var h3) mem) aM) aM⟩
theorem yc {ts f:List Int}:(push f ts).length≤f.length+ts.length:=by
 induction ts generalizing f with
 | nil=>simp [yD]
 | cons t ts ih=>
  rw [pM]
  have:=ih (f:=gM f t)
  have h:(gM f t).length≤f.length+1:=by
   unfold gM
   split<;>simp
  simp only [List.length_cons];omega
theorem mV {f ts:List Int} {t:Int}:push f (ts++[t])=gM (push f ts) t:=by
 unfold push
 rw [List.foldl_append];rfl
theorem aeP (n:Nat) {nm:cY} {it:Its} (h:Rx nm it) {nv iv:Vl} {S:Hs} (hn:Sq S nv (valN nm)) (zH:Sq S iv (aY it)) (hS:NR S):(Mn (n+1)).cal "met_from" [nv,iv] S=.ok (.frs (.lst ((ord nm it).map .int))) S:=by
 rw [Ht]
 have nd:=h.nd
 -- names
 have names:∃ a4 a5 a6 a7 a8 ks vs,forL (fun η1 S2=>exec (Mn n) oK η1 S2) (.tp (.cons (.nm 4) (.cons (.nm 5) .nil))) [] (valN (bK nm)) [some nv,some iv,some (.ref S.length),some (.ref (S.length+1)),none,none,none,none,none] (St S [] [Sum.inl 0,Sum.inl (-1)] [.bl true,.bl true])
   =.nx [some nv,some iv,some (.ref S.length),some (.ref (S.length+1)),a4,a5,a6,a7,a8] (St S (push [] ((bK nm).map (·.2))) ks vs)∧Seen (push [] ((bK nm).map (·.2))) ks vs:=by
  obtain ⟨η',S',h1,a4,a5,a6,a7,a8,ks,vs,e1,e2,e3⟩:=ie (body:=fun η1 S2=>exec (Mn n) oK η1 S2) (t:=.tp (.cons (.nm 4) (.cons (.nm 5) .nil))) (lk:=[]) (xs:=valN (bK nm)) (η:=[some nv,some iv,some (.ref S.length),some (.ref (S.length+1)),none,none,none,none,none]) (S:=St S [] [Sum.inl 0,Sum.inl (-1)] [.bl true,.bl true])
   (fun i η S'=>∃ a4 a5 a6 a7 a8 ks vs,η=[some nv,some iv,some (.ref S.length),some (.ref (S.length+1)),a4,a5,a6,a7,a8]∧S'=St S (push [] (((bK nm).map (·.2)).take i)) ks vs∧Seen (push [] (((bK nm).map (·.2)).take i)) ks vs)
   ⟨none,none,none,none,none,_,_,rfl,rfl,by simp [dH,Vl.nr],by simp [yD],fun t=>by
    simp only [List.take_zero,yD,List.any_cons,List.any_nil,Bool.or_false,List.not_mem_nil,or_false]
    by_cases c:t=0
    ·subst c;simp
    ·by_cases d:t= -1
     ·subst d;simp
     ·have c2:¬ (Sum.inl 0:Key)=Sum.inl t:=fun z=>c (Sum.inl.inj z).symm
      have d2:¬ (Sum.inl (-1):Key)=Sum.inl t:=fun z=>d (Sum.inl.inj z).symm
      simp [c,d,c2,d2]⟩ (fun i η S' _=>aU _) fun i x η S' hx ⟨a4,a5,a6,a7,a8,ks,vs,e1,e2,e3⟩=>by
    subst e1 e2
    obtain ⟨p,hp,rfl⟩:=Ve hx
    have zG:((bK nm).map (·.2))[i]? =some p.2:=by rw [List.getElem?_map,hp];rfl
    have hr:=h.ht p ((bZ nm).mem_iff.mp (List.mem_of_getElem? hp))
    have hl:(push [] (((bK nm).map (·.2)).take i)).length≤300:=by
     have:=yc (f:=[]) (ts:=((bK nm).map (·.2)).take i)
     have q:=List.length_take_le i ((bK nm).map (·.2))
     have q2:=(bZ nm).length_eq
     have q3:=List.length_take_le' i ((bK nm).map (·.2))
     rw [List.length_map] at q3
     have:=h.n6
     simp only [List.length_nil] at*;omega
    obtain ⟨zP,vs',k1,k2⟩:=Lg (M:=Mn n) (η:=[some nv,some iv,some (.ref S.length),some (.ref (S.length+1)),some (.str p.1),some (.int p.2),a6,a7,a8]) (S:=S) rfl rfl rfl hr.1 hl e3
    refine ⟨_,rfl,_,_,.inl k2,_,_,a6,a7,a8,zP,vs',rfl,?_,?_⟩
    ·rw [cO zG,mV]
    ·rw [cO zG,mV];exact k1
  rw [List.take_of_length_le (by rw [List.length_map,jK];exact Nat.le_refl _)] at e2 e3
  subst e1 e2
  exact ⟨a4,a5,a6,a7,a8,ks,vs,h1,e3⟩
 -- one point's targets
 have inner:∀ (a4 a5 a6 a7:Option Vl) (p:Str × List Int) (f:List Int) (ks:List Key) (vs:List Vl),p∈it→f.length≤290→Seen f ks vs→∃ b5 zP vs',forL (fun η1 S2=>exec (Mn n) tK η1 S2) (.nm 5) [] (p.2.map .int) [some nv,some iv,some (.ref S.length),some (.ref (S.length+1)),a4,a5,a6,a7,some (.tup (p.2.map .int))] (St S f ks vs)
   =.nx [some nv,some iv,some (.ref S.length),some (.ref (S.length+1)),a4,b5,a6,a7,some (.tup (p.2.map .int))] (St S (push f p.2) zP vs')∧Seen (push f p.2) zP vs':=fun a4 a5 a6 a7 p f ks vs hp hf hs=>by
  obtain ⟨η',S',h1,b5,zP,vs',e1,e2,e3⟩:=ie (body:=fun η1 S2=>exec (Mn n) tK η1 S2) (t:=.nm 5) (lk:=[]) (xs:=p.2.map .int) (η:=[some nv,some iv,some (.ref S.length),some (.ref (S.length+1)),a4,a5,a6,a7,some (.tup (p.2.map .int))]) (S:=St S f ks vs)
   (fun i η S'=>∃ b5 ks vs,η=[some nv,some iv,some (.ref S.length),some (.ref (S.length+1)),a4,b5,a6,a7,some (.tup (p.2.map .int))]∧S'=St S (push f (p.2.take i)) ks vs∧Seen (push f (p.2.take i)) ks vs)
   ⟨a5,ks,vs,rfl,rfl,hs⟩ (fun i η S' _=>aU _) fun i x η S' hx ⟨b5,ks,vs,e1,e2,e3⟩=>by
    subst e1 e2
    rw [List.getElem?_map] at hx
    obtain ⟨t,ht,rfl⟩:=Option.map_eq_some_iff.mp hx
    have hl:(push f (p.2.take i)).length≤300:=by
     have:=yc (f:=f) (ts:=p.2.take i)
     have q:=List.length_take_le' i p.2
     have:=h.h2 p hp
     omega
    obtain ⟨zP,vs',k1,k2⟩:=Lg (M:=Mn n) (η:=[some nv,some iv,some (.ref S.length),some (.ref (S.length+1)),a4,some (.int t),a6,a7,some (.tup (p.2.map .int))]) (S:=S) rfl rfl rfl (h.hi p hp t (List.mem_of_getElem? ht)).1 hl e3
    refine ⟨_,rfl,_,_,.inl k2,_,zP,vs',rfl,?_,?_⟩
    ·rw [cO ht,mV]
    ·rw [cO ht,mV];exact k1
  rw [List.take_of_length_le (by rw [List.length_map];exact Nat.le_refl _)] at e2 e3
  subst e1 e2
  exact ⟨b5,zP,vs',h1,e3⟩
 obtain ⟨a4,a5,a6,a7,a8,ks,vs,hnm,hse⟩:=names
 have hF:=qI h
 have ak9:=qD h
 have We:∀ (f:List Int) (ks:List Key) (vs:List Vl),ir .len (St S f ks vs) (.ref S.length)=some (.int f.length):=fun f ks vs=>by
  simp only [ir,aX,cV,g0,Option.map_some,List.length_map]
 have lp:∃ η2 S2,Ew (fun η1 S2=>ev (Mn n) (.cmp .Lt (.var 6) (.b1 .len (.var 2))) η1 S2) (fun η1 S2=>exec (Mn n) uL η1 S2) (Mn n).fuel [some nv,some iv,some (.ref S.length),some (.ref (S.length+1)),a4,a5,some (.int 0),a7,a8] (St S (push [] ((bK nm).map (·.2))) ks vs)=.nx η2 S2∧
   ∃ a4 a5 a6 a7 a8 ks vs,η2=[some nv,some iv,some (.ref S.length),some (.ref (S.length+1)),a4,a5,a6,a7,a8]∧S2=St S (ord nm it) ks vs:=by
  obtain ⟨η2,S2,h1,i2⟩:=Z6 (test:=fun η1 S2=>ev (Mn n) (.cmp .Lt (.var 6) (.b1 .len (.var 2))) η1 S2) (body:=fun η1 S2=>exec (Mn n) uL η1 S2)
   (fun m η S'=>∃ (k:Nat) (f:List Int) (a4 a5 a7 a8:Option Vl) (ks:List Key) (vs:List Vl),η=[some nv,some iv,some (.ref S.length),some (.ref (S.length+1)),a4,a5,some (.int k),a7,a8]∧S'=St S f ks vs∧Seen f ks vs∧k+m=(ord nm it).length∧vN (fH it) (it.length - k) k f=ord nm it)
   (fun m η S' ⟨k,f,a4,a5,a7,a8,ks,vs,e1,e2,e3,e4,e5⟩=>by
    subst e1 e2
    have pre:f<+:ord nm it:=by rw [← e5];exact kE
    have hfl:=pre.length_le
    have hk:k<f.length:=by
     refine Nat.lt_of_not_le fun c=> ?_
     have en:f[k]? =none:=List.getElem?_eq_none c
     have:vN (fH it) (it.length - k) k f=f:=by
      cases it.length - k with
      | zero=>rfl
      | succ d=>unfold vN;rw [en]
     rw [this] at e5
     rw [← e5] at e4;omega
    obtain ⟨x,hx⟩:∃ x,f[k]? =some x:=⟨f[k],List.getElem?_eq_getElem hk⟩
    have aat:=ak9 x (pre.subset (List.mem_of_getElem? hx))
    obtain ⟨p,hp,hnx,_⟩:=Fv aat
    have hd:it.length - k=(it.length - (k+1))+1:=by omega
    rw [hd] at e5
    unfold vN at e5
    rw [hx] at e5
    simp only at e5
    rw [hnx] at e5
    refine ⟨aK (v_var rfl) (dG (v_var rfl) (We f ks vs)) (congrArg some (decide_eq_true (by omega))),?_⟩
    obtain ⟨b5,zP,vs',k1,k2⟩:=inner a4 a5 (some (.int ((k:Int)+1))) (some (.str p.1)) p f ks vs (List.mem_of_getElem? hp) (by have:=h.i6;omega) e3
    have e7:((k:Int)+1)=((k+1:Nat):Int):=by omega
    have ix1:dM (St S f ks vs) (.ref S.length) (.int k)=some (.int x):=by
     show (match aX (St S f ks vs) (.ref S.length) with | some (ks,vs)=>_ | none=>_)=_
     simp only [aX,cV,g0]
     have:(f.map Vl.int)[k]? =some (.int x):=by rw [List.getElem?_map,hx];rfl
     exact jT (S:=[]) this
    have ex1:(x - 1:Int)=(((x - 1).toNat:Nat):Int):=by have:=aat.1;omega
    refine ⟨_,_,aq (bz _ _ (du (v_var rfl) (aW (du (v_var rfl) (v_var rfl) ix1) aj (Ra x 1)) (by rw [ex1];exact zH.ix p1 _ _ (pF hp))) rfl) (aq (ajn rfl aj) (aq (jJ _ _ _ (iG (v_var rfl) rfl) k1) aM)),k+1,push f p.2,a4,b5,some (.str p.1),some (.tup (p.2.map .int)),zP,vs',?_,rfl,k2,by omega,e5⟩
    rw [e7])
   (fun η S' ⟨k,f,a4,a5,a7,a8,ks,vs,e1,e2,e3,e4,e5⟩=>by
    subst e1 e2
    have pre:f<+:ord nm it:=by rw [← e5];exact kE
    have hfl:=pre.length_le
    exact aK (v_var rfl) (dG (v_var rfl) (We f ks vs)) (congrArg some (decide_eq_false (by omega))))
   (ord nm it).length (Mn n).fuel [some nv,some iv,some (.ref S.length),some (.ref (S.length+1)),a4,a5,some (.int 0),a7,a8] (St S (push [] ((bK nm).map (·.2))) ks vs)
   (by
     have:(Mn n).fuel=1000:=by cases n<;>rfl
     have:=h.i6;omega)
   ⟨0,_,a4,a5,a7,a8,ks,vs,rfl,rfl,hse,by omega,rfl⟩
  obtain ⟨k,f,a4,a5,a7,a8,ks,vs,e1,e2,e3,e4,e5⟩:=i2
  have pre:f<+:ord nm it:=by rw [← e5];exact kE
  have hfl:=pre.length_le
  have en:f[k]? =none:=List.getElem?_eq_none (by omega)
  have ef:f=ord nm it:=by
   rw [← e5]
   cases it.length - k with
   | zero=>rfl
   | succ d=>unfold vN;rw [en]
  subst ef
  exact ⟨_,_,h1,a4,a5,_,a7,a8,ks,vs,e1,e2⟩
 obtain ⟨η2,S2,hw,b4,b5,b6,b7,b8,ks2,vs2,rfl,rfl⟩:=lp
 refine uX (T:=[.lst ((ord nm it).map .int),.dct ks2 vs2]) (r:=0) rfl ?_ hS rfl (by simp only [Ob.nr,dW])
 show exec (Mn n) Ih [some nv,some iv,none,none,none,none,none,none,none] S=_
 have hd:d9 (Mn n) (.xR [Sum.inl (0),Sum.inl (-1)] (.cons (.cst (.bl true)) (.cons (.cst (.bl true)) .nil))) [some nv,some iv,some (.ref S.length),none,none,none,none,none,none] (S++[.lst []])=.ok (.dct [Sum.inl 0,Sum.inl (-1)] [.bl true,.bl true]) (S++[.lst []]):=
  aa1 (aa aj (aa aj az)) (by simp [dH,Vl.nr]) (by decide) rfl (by decide)
 have e2:S++[.lst []]++[.dct [Sum.inl 0,Sum.inl (-1)] [.bl true,.bl true]]=St S [] [Sum.inl 0,Sum.inl (-1)] [.bl true,.bl true]:=by simp
 refine aq (bz _ _ (m9 (lL az (by simp))) rfl) (aq (bz (.ref (S.length+1)) _ (by have:=m9 hd;rw [List.append_assoc] at this;simpa using this) rfl) (aq (jJ _ _ _ (iG (dw (R4 (v_var rfl) (JG hn p1 nd (by have:=h.n6;omega)))) rfl) hnm) (aq (bz _ _ aj rfl) (aq (aiy hw) (bA (dJ _ _ (v_var rfl)))))))
end K04
namespace K04
open PySem L2 Oz
theorem YJ {M:aF} {d:jU} {xs:List Vl} {S:Hs} {o o':Ob} (hl:xs.length=d.np) (hb:∃ η T,exec M d.body (xs.map some++List.replicate (d.nn - xs.length) none) (S++[o])=.nx η (S++[o']++T)) (hS:NR S) (hv:o'.nr=true):gK M d xs (S++[o])=.ok (.val .non) (S++[o']):=by
 obtain ⟨η,T,hb⟩:=hb
 unfold gK
 rw [if_pos hl,hb]
 simp only
 have hn:(S++[o]).length=(S++[o']).length:=by simp
 rw [hn]
 have ht:(S++[o']++T).take (S++[o']).length=S++[o']:=by
  rw [List.take_append_of_le_length (Nat.le_refl _),List.take_length]
 have hT:NR ((S++[o']++T).take (S++[o']).length):=by rw [ht];exact hS.one hv
 rw [HR hT (by simp only [Vl.nr]),ht]
def eO (nm:cY) (it:Its):cY:=(bK nm).map fun p=>(p.1,anew (ord nm it) p.2)
def jf (nm:cY) (it:Its):Its:=(ord nm it).map fun x=>(Ui it x,(fH it x).map (anew (ord nm it)))
def O9 (ld:cY) (it:Its):Ob:=.ins "Web" ["leads","spots"] [.dct (ld.map fun p=>Sum.inr p.1) (ld.map fun p=>.int p.2),.lst (aY it)]
theorem zf (ld:cY):dH (ld.map fun p=>Vl.int p.2)=true:=tY fun x hx=>by
 obtain ⟨p,_,rfl⟩:=List.mem_map.mp hx
 simp only [Vl.nr]
theorem Xj (ld:cY) (it:Its):(O9 ld it).nr=true:=by simp only [O9,Ob.nr,dH,Vl.nr,zf,qQ,Bool.and_self]
theorem Ml {nm:cY} {it:Its} (h:Rx nm it):(∀ p∈nm,0<p.2→p.2∈ord nm it)∧∀ x∈ord nm it,∀ t∈fH it x,0<t→t∈ord nm it:=by
 refine ⟨fun p hp h0=> ?_,fun x hx t ht h0=> ?_⟩
 ·exact kE.subset (nZ.mpr (.inr ⟨List.mem_map.mpr ⟨p,(bZ nm).mem_iff.mpr hp,rfl⟩,h0⟩))
 ·obtain ⟨i,hi⟩:=List.getElem?_of_mem hx
  exact Ey (by have:=qI h;unfold ord at this;omega) i x (Nat.zero_le _) hi t ht h0
def mF (F:List Int) (u:Int):Option Int:=if u∈F then some ((F.idxOf u:Int)+1) else none
def m01 (m:Int→Option Int) (u:Int):Option Int:=if u= -1 then some (-1) else if u=0 then some 0 else m u
theorem aa0 (s u:Int):∀ (F:List Int),cD (F.map (Sum.inl:Int→Key)) ((List.range F.length).map fun (i:Nat)=>Vl.int (s+i)) (Sum.inl u)=if u∈F then some (.int (s+F.idxOf u)) else none:=by
 intro F
 induction F generalizing s with
 | nil=>simp [cD]
 | cons x F ih=>
  rw [List.length_cons,List.range_succ_eq_map,List.map_cons,List.map_cons,List.map_map]
  simp only [cD]
  by_cases c:x=u
  ·subst c
   rw [if_pos rfl,if_pos List.mem_cons_self]
   simp
  ·have c2:¬ (Sum.inl x:Key)=Sum.inl u:=fun z=>c (Sum.inl.inj z)
   rw [if_neg c2]
   have e:(List.range F.length).map ((fun (i:Nat)=>Vl.int (s+i)) ∘ Nat.succ)=(List.range F.length).map fun (i:Nat)=>Vl.int (s+1+i):=List.map_congr_left fun i _=>by
    simp only [Function.comp]
    congr 1
    omega
   rw [e,ih (s+1)]
   by_cases d:u∈F
   ·have e3:(x::F).idxOf u=F.idxOf u+1:=by simp only [List.idxOf_cons,beq_eq_false_iff_ne.mpr c,cond_false]
    rw [if_pos d,if_pos (List.mem_cons_of_mem _ d),e3]
    congr 2
    omega
   ·rw [if_neg d,if_neg (by simp [d,Ne.symm c])]
def KR (x:Vl):Key × Vl:=match x with
 | .tup [y,.int p]=>(Sum.inl p,y)
 | _=>(Sum.inl 0,.non)
theorem ahb (s:Int):∀ F:List Int,((iH s (F.map Vl.int)).map KR).map (·.1)=F.map Sum.inl∧((iH s (F.map Vl.int)).map KR).map (·.2)=(List.range F.length).map fun (i:Nat)=>Vl.int (s+i):=by
 intro F
 induction F generalizing s with
 | nil=>exact ⟨rfl,rfl⟩
 | cons x F ih=>
  obtain ⟨h1,h2⟩:=ih (s+1)
  rw [List.length_cons,List.range_succ_eq_map,List.map_cons,List.map_cons]
  simp only [iH,List.map_cons,KR]
  refine ⟨by rw [h1],?_⟩
  rw [h2,List.map_map]
  congr 1
  ·simp
  ·exact List.map_congr_left fun i _=>by
    simp only [Function.comp]
    congr 1
    omega
theorem abV {F:List Int} (nd:F.Nodup):∃ ks vs,j5 ((iH 1 (F.map Vl.int)).map KR) [] []=(ks,vs)∧Dm ks vs (mF F)∧ks.length=F.length:=by
 obtain ⟨h1,h2⟩:=ahb 1 F
 have hk:(F.map (Sum.inl:Int→Key)).Nodup:=List.Pairwise.map _ (fun a b ne z=>ne (Sum.inl.inj z)) nd
 refine ⟨_,_,w6 (by rw [List.nil_append,h1];exact hk),?_,by rw [h1];simp⟩
 rw [h1,h2,List.nil_append,List.nil_append]
 refine ⟨by simp,tY fun x hx=> ?_,fun u=> ?_⟩
 ·obtain ⟨i,_,rfl⟩:=List.mem_map.mp hx
  simp only [Vl.nr]
 ·rw [aa0]
  unfold mF
  by_cases c:u∈F
  ·rw [if_pos c,if_pos c,Option.map_some]
   congr 2
   omega
  ·rw [if_neg c,if_neg c];rfl
theorem abE {F:List Int} {m:Int→Option Int} (hm:∀ u,0<u→m u=mF F u) {t:Int} (h: -1≤t) (hF:0<t→t∈F):m01 m t=some (anew F t):=by
 unfold m01 anew
 by_cases c:0<t
 ·rw [if_neg (by omega),if_neg (by omega),if_pos c,hm t c]
  unfold mF
  rw [if_pos (hF c)]
 ·rw [if_neg c]
  by_cases d:t= -1
  ·rw [if_pos d,d]
  ·rw [if_neg d,if_pos (show t=0 by omega)]
   congr 1
   omega
theorem g1' {S T:Hs} {a b:Ob}:(S++[a,b]++T)[S.length+1]? =some b:=by
 rw [List.getElem?_append_left (by simp)];exact g1
def gName (F:List Int) (x:Vl):Key × Vl:=match x with
 | .tup [.str z,.int t]=>(Sum.inr z,.int (anew F t))
 | _=>(Sum.inl 0,.non)
def Pk (it:Its) (F:List Int) (x:Vl):Vl:=match x with
 | .int x=>.tup [.str (Ui it x),.tup (((fH it x).map (anew F)).map .int)]
 | _=>.non
theorem KY (nm:cY) (it:Its):aY (jf nm it)=((ord nm it).map Vl.int).map (Pk it (ord nm it)):=by
 unfold aY jf
 rw [List.map_map,List.map_map]
 rfl
theorem aaK {nm:cY} {it:Its} (nd:(nm.map (·.1)).Nodup):j5 ((valN (bK nm)).map (gName (ord nm it))) [] []=((eO nm it).map fun p=>Sum.inr p.1,(eO nm it).map fun p=>.int p.2):=by
 have h1:((valN (bK nm)).map (gName (ord nm it))).map (·.1)=(eO nm it).map fun p=>(Sum.inr p.1:Key):=by
  unfold valN eO
  rw [List.map_map,List.map_map,List.map_map]
  rfl
 have h2:((valN (bK nm)).map (gName (ord nm it))).map (·.2)=(eO nm it).map fun p=>Vl.int p.2:=by
  unfold valN eO
  rw [List.map_map,List.map_map,List.map_map]
  rfl
 rw [w6,h1,h2,List.nil_append,List.nil_append]
 rw [List.nil_append,h1]
 have h3:(eO nm it).map (fun p=>(Sum.inr p.1:Key))=((bK nm).map (·.1)).map Sum.inr:=by
  unfold eO
  rw [List.map_map,List.map_map]
  rfl
 rw [h3]
 exact List.Pairwise.map _ (fun a b ne z=>ne (Sum.inr.inj z)) (Eb nd)
inductive Vd (nm:cY) (it:Its):Option (Str × Vl)→Prop where
 | name (j:Nat) (p:Str × Int) (hp:nm[j]? =some p) (hb:jc nm j=false) (hg:∀ i,i<j→jc nm i=true):Vd nm it (some ("BadName",.str p.1))
 | item (hN:∀ i,i<nm.length→jc nm i=true) (j:Nat) (p:Str × List Int) (hp:it[j]? =some p) (hb:dY it.length p=false) (hg:∀ i q,i<j→it[i]? =some q→dY it.length q=true):Vd nm it (some ("BadWeb",.int j))
 | tgt (hN:∀ i,i<nm.length→jc nm i=true) (hI:∀ q∈it,dY it.length q=true) (hb:(nm.all fun p=>inR it.length p.2)=false):Vd nm it (some ("BadWeb",.int (-1)))
 | many (hN:∀ i,i<nm.length→jc nm i=true) (hI:∀ q∈it,dY it.length q=true) (hT:(nm.all fun p=>inR it.length p.2)=true) (h6:6<nm.length∨200<it.length):Vd nm it (some ("BadWeb",.non))
 | met (hN:∀ i,i<nm.length→jc nm i=true) (hI:∀ q∈it,dY it.length q=true) (hT:(nm.all fun p=>inR it.length p.2)=true) (hf:Rx nm it) (h2:it.length≤200) (hm:(ord nm it).length<it.length):Vd nm it (some ("BadWeb",.non))
 | ok (hN:∀ i,i<nm.length→jc nm i=true) (hI:∀ q∈it,dY it.length q=true) (hT:(nm.all fun p=>inR it.length p.2)=true) (hf:Rx nm it) (h2:it.length≤200) (Qw:(ord nm it).length=it.length):Vd nm it none
structure Sz (nm:cY) (it:Its):Prop where
 hz:∀ p∈nm,p.1.length≤1000
 nl:nm.length≤1000
 iz:∀ p∈it,p.1.length≤1000
 tz:∀ p∈it,p.2.length≤1000
 il:it.length≤1000
theorem vB {many t:Int}:inR many t=true↔-1≤t∧t≤many:=by
 unfold inR
 rw [Bool.and_eq_true,decide_eq_true_eq,decide_eq_true_eq]
theorem Du {many:Int} {p:Str × List Int} (h:dY many p=true):p.2.length≤2∧∀ t∈p.2,-1≤t∧t≤many:=by
 unfold dY nj at h
 rw [Bool.and_eq_true] at h
 refine ⟨?_,fun t ht=>vB.mp (List.all_eq_true.mp h.2 t ht)⟩
 have h1:=h.1
 split at h1
 ·rw [decide_eq_true_eq] at h1;omega
 ·rw [Bool.and_eq_true,decide_eq_true_eq] at h1;omega
theorem ajT {nm:cY} {it:Its} (z:Sz nm it):∃ v,Vd nm it v:=by
 rcases zN (jc nm) nm.length with hN | ⟨j,h1,h2,h3⟩
 ·rcases zN (fun i=>match it[i]? with | some q=>dY it.length q | none=>true) it.length with hI | ⟨j,h1,h2,h3⟩
  ·have hI':∀ q∈it,dY it.length q=true:=fun q hq=>by
    obtain ⟨i,hi⟩:=List.getElem?_of_mem hq
    have:=hI i (List.getElem?_eq_some_iff.mp hi).1
    simpa only [hi] using this
   cases hT:(nm.all fun p=>inR it.length p.2) with
   | false=>exact ⟨_,.tgt hN hI' hT⟩
   | true=>
    by_cases h6:nm.length≤6∧it.length≤200
    ·have hf:Rx nm it:=⟨aeh hN,h6.1,Nat.le_trans h6.2 (by decide),fun p hp=>(Du (hI' p hp)).2,fun p hp=>vB.mp (List.all_eq_true.mp hT p hp),fun p hp=>(Du (hI' p hp)).1⟩
     have:=qI hf
     by_cases hm:(ord nm it).length<it.length
     ·exact ⟨_,.met hN hI' hT hf h6.2 hm⟩
     ·exact ⟨_,.ok hN hI' hT hf h6.2 (by omega)⟩
    ·exact ⟨_,.many hN hI' hT (by omega)⟩
  ·have hj:=List.getElem?_eq_getElem h1
   simp only [hj] at h2
   refine ⟨_,.item hN j it[j] hj h2 fun i q hi hq=> ?_⟩
   have:=h3 i hi
   simpa only [hq] using this
 ·exact ⟨_,.name j nm[j] (List.getElem?_eq_getElem h1) h2 h3⟩
def abI (c:Str):Str:=if c=("BadName":Str) then "name" else "place"
abbrev sI (S:Hs) (nv iv:Vl) (a3 a4 a5:Option Vl):Sg:=[some (.ref S.length),some nv,some iv,a3,a4,a5,none,none,none,none,none,none,none]
def fTg (many:Int) (x:Vl):Vl:=match x with
 | .tup [_,.int t]=>.bl (inR many t)
 | _=>.non
section
variable {nm:cY} {it:Its} {nv iv:Vl} {S:Hs}
theorem vg (n:Nat) (z:Sz nm it) (hn:Sq S nv (valN nm)) (hS:NR S) (hN:∀ i,i<nm.length→jc nm i=true):aP (Mn (n+2)) (.ex (.call "need_names" (.cons (.var 1) .nil))) (sI S nv iv none none none) (S++[.ins "Web" [] []])=.nx (sI S nv iv none none none) (S++[.ins "Web" [] []]):=
 M9 _ _ (bJ (r:=.val .non) (aa (v_var rfl) az) (YS n z.hz (by have:=z.nl;omega) hN (let ⟨lk,w⟩:=hn.walk;⟨lk,fun T=>w p2⟩) (hS.one (by simp [Ob.nr,dH]))))
theorem Uk (n:Nat) (z:Sz nm it) (zH:Sq S iv (aY it)) (hS:NR S) {i:Nat} {x:Vl} (hx:(iH 0 (aY it))[i]? =some x) (a3 a4 a5:Option Vl):∃ p,it[i]? =some p∧aZ (.tp (.cons (.nm 3) (.cons (.tp (.cons (.nm 4) (.cons (.nm 5) .nil))) .nil))) x (sI S nv iv a3 a4 a5)=some (sI S nv iv (some (.int i)) (some (.str p.1)) (some (.tup (p.2.map .int))))∧
  ev (Mn (n+2)) (.pY (.call "is_item" (.cons (.var 4) (.cons (.var 5) (.cons (.b1 .len (.var 2)) .nil))))) (sI S nv iv (some (.int i)) (some (.str p.1)) (some (.tup (p.2.map .int)))) (S++[.ins "Web" [] []])=.ok (.bl (!dY it.length p)) (S++[.ins "Web" [] []]):=by
 obtain ⟨v,hv,rfl⟩:=pD hx
 obtain ⟨p,hp,rfl⟩:=Wl hv
 have hm:=List.mem_of_getElem? hp
 refine ⟨p,hp,?_,jR (bJ (r:=.val (.bl (dY it.length p))) (aa (v_var rfl) (aa (v_var rfl) (aa (dG (v_var rfl) (by have:=zH.len (S:=S++[.ins "Web" [] []]) p1;rwa [fV] at this)) az))) (afG n (z.iz p hm) (by have:=z.tz p hm;omega) (hS.one (by simp [Ob.nr,dH]))))⟩
 have:((0:Int)+(i:Int))=(i:Int):=by omega
 rw [this];rfl
theorem Dj (n:Nat) (z:Sz nm it) (zH:Sq S iv (aY it)) (hS:NR S) (hI:∀ q∈it,dY it.length q=true):∃ a3 a4 a5,aP (Mn (n+2)) (.for_ (.tp (.cons (.nm 3) (.cons (.tp (.cons (.nm 4) (.cons (.nm 5) .nil))) .nil))) (.Y6 (.var 2) 0) iQ) (sI S nv iv none none none) (S++[.ins "Web" [] []])=.nx (sI S nv iv a3 a4 a5) (S++[.ins "Web" [] []]):=by
 obtain ⟨lk,hw⟩:=zH.walk
 obtain ⟨η',S',h1,a3,a4,a5,e1,e2⟩:=ie (body:=fun η1 S2=>exec (Mn (n+2)) iQ η1 S2) (t:=.tp (.cons (.nm 3) (.cons (.tp (.cons (.nm 4) (.cons (.nm 5) .nil))) .nil))) (lk:=lk) (xs:=iH 0 (aY it)) (η:=sI S nv iv none none none) (S:=S++[.ins "Web" [] []])
  (fun i η S'=>∃ a3 a4 a5,η=sI S nv iv a3 a4 a5∧S'=S++[.ins "Web" [] []])
  ⟨none,none,none,rfl,rfl⟩ (fun i η S' ⟨_,_,_,_,e2⟩=>by rw [e2];exact (hw p1).2) fun i x η S' hx ⟨a3,a4,a5,e1,e2⟩=>by
   subst e1 e2
   obtain ⟨p,hp,hb,ht⟩:=Uk n z zH hS hx a3 a4 a5
   rw [hI p (List.mem_of_getElem? hp)] at ht
   exact ⟨_,hb,_,_,.inl (aq (bD _ ht aM) aM),_,_,_,rfl,rfl⟩
 subst e1 e2
 exact ⟨a3,a4,a5,jJ _ _ _ (Hq (v_var rfl) (hw p1).1) h1⟩
theorem abb {xs:List Vl} {x:Vl}:∀ {s:Int} {i:Nat},xs[i]? =some x→∃ k:Int,(iH s xs)[i]? =some (.tup [.int k,x]):=by
 induction xs with
 | nil=>intro s i h;simp at h
 | cons y ys ih=>
  intro s i h
  cases i with
  | zero=>cases (show some y=some x by simpa using h);exact ⟨s,rfl⟩
  | succ i=>
   obtain ⟨k,hk⟩:=ih (s:=s+1) (i:=i) (by simpa using h)
   exact ⟨k,by simpa only [iH,List.getElem?_cons_succ] using hk⟩
theorem abD (n:Nat) (z:Sz nm it) (zH:Sq S iv (aY it)) (hS:NR S) {j:Nat} {p:Str × List Int} (hp:it[j]? =some p) (hb:dY it.length p=false) (hg:∀ i q,i<j→it[i]? =some q→dY it.length q=true):∃ η,aP (Mn (n+2)) (.for_ (.tp (.cons (.nm 3) (.cons (.tp (.cons (.nm 4) (.cons (.nm 5) .nil))) .nil))) (.Y6 (.var 2) 0) iQ) (sI S nv iv none none none) (S++[.ins "Web" [] []])=.exc ⟨"BadWeb",some (["place"],[.int j])⟩ η (S++[.ins "Web" [] []]):=by
 obtain ⟨lk,hw⟩:=zH.walk
 obtain ⟨k,hk⟩:=abb (s:=0) (pF hp)
 obtain ⟨η',S',⟨a3,a4,a5,e1,e2⟩,hend⟩:=OJ (body:=fun η1 S2=>exec (Mn (n+2)) iQ η1 S2) (t:=.tp (.cons (.nm 3) (.cons (.tp (.cons (.nm 4) (.cons (.nm 5) .nil))) .nil))) (lk:=lk) (xs:=iH 0 (aY it)) (η:=sI S nv iv none none none) (S:=S++[.ins "Web" [] []])
  (fun i η S'=>∃ a3 a4 a5,η=sI S nv iv a3 a4 a5∧S'=S++[.ins "Web" [] []]) j
  ⟨none,none,none,rfl,rfl⟩ (fun i η S' ⟨_,_,_,_,e2⟩=>by rw [e2];exact (hw p1).2) hk fun i x η S' hi hx ⟨a3,a4,a5,e1,e2⟩=>by
   subst e1 e2
   obtain ⟨p,hp,hb,ht⟩:=Uk n z zH hS hx a3 a4 a5
   rw [hg i p hi hp] at ht
   exact ⟨_,hb,_,_,.inl (aq (bD _ ht aM) aM),_,_,_,rfl,rfl⟩
 subst e1 e2
 obtain ⟨p',hp',hbd,ht⟩:=Uk n z zH hS hk a3 a4 a5
 cases hp.symm.trans hp'
 rw [hb] at ht
 exact ⟨_,jJ _ _ _ (Hq (v_var rfl) (hw p1).1) (hend _ _ hbd (cA (cQ _ ht (cA (x_raise (v_var rfl) (eG (n+2)))))) (.inl ⟨_,_,_,rfl⟩))⟩
theorem N6 (n:Nat) (z:Sz nm it) (hn:Sq S nv (valN nm)) (zH:Sq S iv (aY it)) (a3 a4 a5:Option Vl) {S':Hs} (hp:S<+:S'):ev (Mn (n+2)) (.pY (.b1 .all (.inl ph))) (sI S nv iv a3 a4 a5) S'=.ok (.bl (!(nm.all fun p=>inR it.length p.2))) S':=by
 have Rp:∀ T,ir .len (S'++T) iv=some (.int it.length):=fun T=>by have:=zH.len (hp.trans (p1 (T:=T)));rwa [fV] at this
 obtain ⟨lk,hw⟩:=hn.walk
 have e:(nm.map fun p=>Vl.bl (inR it.length p.2))=(valN nm).map (fTg it.length):=by unfold valN;rw [List.map_map];rfl
 refine jR (dG (dw (o:=.lst (nm.map fun p=>.bl (inR it.length p.2))) ?_) (CW _ _ _))
 rw [e]
 unfold ph
 refine fO lk (valN nm) (fTg it.length) (iG (v_var rfl) (hw hp).1) (hw hp).2 (by rw [jK];have:=z.nl;omega) (fun x hx=> ?_) fun x hx aQ _=> ?_
 ·obtain ⟨p,hp,rfl⟩:=List.mem_map.mp hx
  simp only [fTg,Vl.nr]
 ·obtain ⟨p,hp,rfl⟩:=List.mem_map.mp hx
  exact ⟨_,rfl,aeM aj (v_var rfl) (dG (v_var rfl) (Rp _))⟩
end
theorem afV (n:Nat) {nm:cY} {it:Its} (z:Sz nm it) (Yw:it.length≤200) (hN:∀ i,i<nm.length→jc nm i=true) (hI:∀ q∈it,dY it.length q=true) (hT:(nm.all fun p=>inR it.length p.2)=true) (h:Rx nm it) (Qw:(ord nm it).length=it.length) {nv iv:Vl} {S:Hs} (hn:Sq S nv (valN nm)) (zH:Sq S iv (aY it)) (hS:NR S) :
  (Mn (n+3)).cal (dot "Web" "__init__") [.ref S.length,nv,iv] (S++[.ins "Web" [] []])=.ok (.val .non) (S++[O9 (eO nm it) (jf nm it)]):=by
 rw [qW]
 refine YJ rfl ?_ hS (Xj _ _)
 show ∃ η T,exec (Mn (n+2)) qX [some (.ref S.length),some nv,some iv,none,none,none,none,none,none,none,none,none,none] (S++[.ins "Web" [] []])=_
 have WP:NR (S++[.ins "Web" [] []]):=hS.one (by simp [Ob.nr,dH])
 obtain ⟨a3,a4,a5,hit1⟩:=Dj (nm:=nm) (nv:=nv) n z zH hS hI
 have F:=ord nm it
 obtain ⟨c1,c2⟩:=Ml h
 have hnl:∀ T,ir .len (S++T) nv=some (.int nm.length):=fun T=>by have:=hn.len (p1 (T:=T));rwa [jK] at this
 have Rp:∀ T,ir .len (S++T) iv=some (.int it.length):=fun T=>by have:=zH.len (p1 (T:=T));rwa [fV] at this
 have aiD:=N6 (S:=S) n z hn zH a3 a4 a5 (S':=S++[.ins "Web" [] []]) p1
 rw [hT] at aiD
 -- the dict of new numbers
 obtain ⟨ks,vs,ed,hD,hkl⟩:=abV (F:=ord nm it) HD
 have ofl:=qI h
 have hi6:=h.i6
 have h6:=h.n6
 have dct:d9 (Mn (n+2)) wk [some (.ref S.length),some nv,some iv,a3,a4,a5,none,none,some (.lst ((ord nm it).map .int)),none,none,none,none] (S++[.ins "Web" [] []])=.ok (.dct ks vs) (S++[.ins "Web" [] []]):=by
  have:=Rh (M:=Mn (n+2)) (own:=[10,11]) (ke:=.var 11) (ve:=.var 10) (t:=.tp (.cons (.nm 10) (.cons (.nm 11) .nil))) (s:=.Y6 (.var 8) 1) (η:=[some (.ref S.length),some nv,some iv,a3,a4,a5,none,none,some (.lst ((ord nm it).map .int)),none,none,none,none]) (S:=S++[.ins "Web" [] []]) [] (iH 1 ((ord nm it).map .int)) KR (Hq (v_var rfl) rfl) (aU _) (by rw [uV,List.length_map];omega) (fun x hx=>by
    obtain ⟨i,hi⟩:=List.getElem?_of_mem hx
    obtain ⟨v,hv,rfl⟩:=pD hi
    rw [List.getElem?_map] at hv
    obtain ⟨y,_,rfl⟩:=Option.map_eq_some_iff.mp hv
    simp only [KR,Vl.nr]) fun x hx ks vs _=>by
    obtain ⟨i,hi⟩:=List.getElem?_of_mem hx
    obtain ⟨v,hv,rfl⟩:=pD hi
    rw [List.getElem?_map] at hv
    obtain ⟨y,_,rfl⟩:=Option.map_eq_some_iff.mp hv
    exact ⟨_,.int y,rfl,v_var rfl,rfl,v_var rfl⟩
  rw [ed] at this
  exact this
 have D1:=(hD.put 0 0).put (-1) (-1)
 generalize alr:(putD (putD ks vs (Sum.inl 0) (.int 0)).1 (putD ks vs (Sum.inl 0) (.int 0)).2 (Sum.inl (-1)) (.int (-1))).1=ks2 at D1
 generalize ame:(putD (putD ks vs (Sum.inl 0) (.int 0)).1 (putD ks vs (Sum.inl 0) (.int 0)).2 (Sum.inl (-1)) (.int (-1))).2=vs2 at D1
 have hm:∀ t:Int,-1≤t→(0<t→t∈ord nm it)→cD ks2 vs2 (Sum.inl t)=some (.int (anew (ord nm it) t)):=fun t h1 h2=>by
  rw [D1.2.2 t]
  have:=abE (F:=ord nm it) (m:=mF (ord nm it)) (fun _ _=>rfl) h1 h2
  unfold m01 at this
  exact congrArg (Option.map Vl.int) this
 have ixA:∀ (T:Hs) (a:Ob) (t:Int),-1≤t→(0<t→t∈ord nm it)→dM (S++[a,.dct ks2 vs2]++T) (.ref (S.length+1)) (.int t)=some (.int (anew (ord nm it) t)):=fun T a t h1 h2=>by
  rw [Ul (ks:=ks2) (vs:=vs2) (by simp only [aX,g1'])]
  exact hm t h1 h2
 have anT:ks.length≤300:=by omega
 have amy:(putD ks vs (Sum.inl 0) (.int 0)).1.length≤400:=by
  have:=(MP (k:=Sum.inl 0) (y:=.int 0) hD.1).2
  omega
 -- names and spots
 have ajd:d9 (Mn (n+2)) wy [some (.ref S.length),some nv,some iv,a3,a4,a5,none,none,some (.lst ((ord nm it).map .int)),some (.ref (S.length+1)),none,none,none] (S++[.ins "Web" [] [],.dct ks2 vs2])=.ok (.dct ((eO nm it).map fun p=>Sum.inr p.1) ((eO nm it).map fun p=>.int p.2)) (S++[.ins "Web" [] [],.dct ks2 vs2]):=by
  have:=Rh (M:=Mn (n+2)) (own:=[6,7]) (ke:=.var 6) (ve:=.idx (.var 9) (.var 7)) (t:=.tp (.cons (.nm 6) (.cons (.nm 7) .nil))) (s:=.sq (.inl (.YG (.var 1)))) (η:=[some (.ref S.length),some nv,some iv,a3,a4,a5,none,none,some (.lst ((ord nm it).map .int)),some (.ref (S.length+1)),none,none,none]) (S:=S++[.ins "Web" [] [],.dct ks2 vs2]) [] (valN (bK nm)) (gName (ord nm it)) (iG (dw (R4 (v_var rfl) (JG hn p1 h.nd (by omega)))) rfl) (aU _) (by rw [jK,(bZ nm).length_eq];omega) (fun x hx=>by
    obtain ⟨p,_,rfl⟩:=List.mem_map.mp hx
    simp only [gName,Vl.nr]) fun x hx ks vs _=>by
    obtain ⟨p,hp,rfl⟩:=List.mem_map.mp hx
    have hp':=(bZ nm).mem_iff.mp hp
    exact ⟨_,.str p.1,rfl,v_var rfl,rfl,du (v_var rfl) (v_var rfl) (ixA _ _ _ (h.ht p hp').1 (c1 p hp'))⟩
  rw [aaK h.nd] at this
  exact this
 have aar:∀ (a:Ob),d9 (Mn (n+2)) pq [some (.ref S.length),some nv,some iv,a3,a4,a5,none,none,some (.lst ((ord nm it).map .int)),some (.ref (S.length+1)),none,none,none] (S++[a,.dct ks2 vs2])=.ok (.lst (aY (jf nm it))) (S++[a,.dct ks2 vs2]):=fun a=>by
  rw [KY]
  unfold pq
  refine fO [] ((ord nm it).map .int) (Pk it (ord nm it)) (iG (v_var rfl) rfl) (aU _) (by rw [List.length_map];omega) (fun x hx=>by
   obtain ⟨y,_,rfl⟩:=List.mem_map.mp hx
   simp only [Pk,Vl.nr,dH,dW,Bool.and_self]) fun x hx aQ _=> ?_
  obtain ⟨y,hy,rfl⟩:=List.mem_map.mp hx
  have aaR:=qD h y hy
  obtain ⟨p,hp,hnx,hwo⟩:=Fv aaR
  have ey:(y - 1:Int)=(((y - 1).toNat:Nat):Int):=by have:=aaR.1;omega
  have ixI:∀ {S':Hs},S<+:S'→dM S' iv (.int (y - 1))=some (.tup [.str p.1,.tup (p.2.map .int)]):=fun q=>by
   rw [ey];exact zH.ix q _ _ (pF hp)
  refine ⟨_,rfl,?_⟩
  show ev _ _ _ _=.ok (.tup [.str (Ui it y),.tup (((fH it y).map (anew (ord nm it))).map .int)]) _
  rw [hwo,hnx]
  refine iK (aa (du (du (v_var rfl) (aW (v_var rfl) aj (Ra y 1)) (ixI p2)) aj (ix_tup (i:=0) rfl)) (aa (dG (dw (o:=.lst ((p.2.map (anew (ord nm it))).map .int)) ?_) rfl) az)) (show 2≤1000000 by decide)
  ·unfold vX
   have e:(p.2.map (anew (ord nm it))).map Vl.int=(p.2.map Vl.int).map (fun v=>match v with | .int t=>.int (anew (ord nm it) t) | _=>.non):=by
    rw [List.map_map,List.map_map];rfl
   rw [e]
   refine fO [] (p.2.map .int) _ (iG (du (du (v_var rfl) (aW (v_var rfl) aj (Ra y 1)) (ixI p2)) aj (ix_tup (i:=1) rfl)) rfl) (aU _) (by rw [List.length_map];have:=h.h2 p (List.mem_of_getElem? hp);omega) (fun x hx=>by
    obtain ⟨t,_,rfl⟩:=List.mem_map.mp hx
    simp only [Vl.nr]) fun x hx acf _=> ?_
   obtain ⟨t,ht,rfl⟩:=List.mem_map.mp hx
   refine ⟨_,rfl,du (v_var rfl) (v_var rfl) ?_⟩
   have ht':t∈fH it y:=by rw [hnx];exact ht
   have:=ixA ([.lst aQ]++[.lst acf]) a t (Rk h y t ht').1 (c2 y hy t ht')
   rw [← List.append_assoc] at this
   exact this
 have e1:S++[.ins "Web" [] []]++[.dct ks vs]=S++[.ins "Web" [] [],.dct ks vs]:=by simp
 have n1:(S++[Ob.ins "Web" [] []]).length=S.length+1:=by simp
 refine ⟨[some (.ref S.length),some nv,some iv,a3,a4,a5,none,none,some (.lst ((ord nm it).map .int)),some (.ref (S.length+1)),none,none,none],[.dct ks2 vs2],aq (vg n z hn hS hN) (aq hit1 (aq (bD _ aiD aM) (aq (bD _ (t8 (aK (dG (v_var rfl) (hnl _)) aj (congrArg some (decide_eq_false ?_))) (aK (dG (v_var rfl) (Rp _)) aj (congrArg some (decide_eq_false ?_)))) aM) (aq (bz _ _ (bJ (aa (v_var rfl) (aa (v_var rfl) az)) (aeP (n+1) h hn.up zH.up WP)) rfl) (aq (bD _ (aK (dG (v_var rfl) (mK _ _)) (dG (v_var rfl) (Rp _)) (congrArg some (decide_eq_false ?_))) aM) (aq (bz (.ref (S.length+1)) (S++[.ins "Web" [] [],.dct ks vs]) ?_ rfl) (aq (adm (iK (aa aj (aa aj az)) (show 2≤1000000 by decide)) (v_var rfl) aj (jP (kk:=Sum.inl 0) g1 rfl (by omega)) (v_var rfl) aj (jP (kk:=Sum.inl (-1)) (by rw [s1,g1]) rfl (by omega))) ?_)))))))⟩
 ·omega
 ·omega
 ·rw [List.length_map];omega
 ·have:=m9 dct
  rw [e1,n1] at this
  exact this
 ·rw [s1,s1,alr,ame]
  refine aq (ZL (dw ajd) (v_var rfl) g0 (show 0<1000 by decide)) ?_
  rw [s0]
  refine aq (ZL (dw (aar _)) (v_var rfl) g0 (show 1<1000 by decide)) ?_
  rw [s0,aM]
  have:S++[O9 (eO nm it) (jf nm it)]++[Ob.dct ks2 vs2]=S++[O9 (eO nm it) (jf nm it),.dct ks2 vs2]:=by simp
  rw [this]
  rfl
theorem adI (n:Nat) {nm:cY} {it:Its} (z:Sz nm it) {c:Str} {x:Vl} (hv:Vd nm it (some (c,x))) {nv iv:Vl} {S:Hs} (hn:Sq S nv (valN nm)) (zH:Sq S iv (aY it)) (hS:NR S) :
  (Mn (n+3)).cal (dot "Web" "__init__") [.ref S.length,nv,iv] (S++[.ins "Web" [] []])=.exc ⟨c,some ([abI c],[x])⟩ (S++[.ins "Web" [] []]):=by
 rw [qW]
 have WP:NR (S++[.ins "Web" [] []]):=hS.one (by simp [Ob.nr,dH])
 have hnl:∀ T,ir .len (S++T) nv=some (.int nm.length):=fun T=>by have:=hn.len (p1 (T:=T));rwa [jK] at this
 have Rp:∀ T,ir .len (S++T) iv=some (.int it.length):=fun T=>by have:=zH.len (p1 (T:=T));rwa [fV] at this
 have hl:=z.il
 have key:∃ η,exec (Mn (n+2)) qX (sI S nv iv none none none) (S++[.ins "Web" [] []])=.exc ⟨c,some ([abI c],[x])⟩ η (S++[.ins "Web" [] []])∧x.nr=true:=by
  cases hv with
  | name j p hp hb hg=>exact ⟨_,cA (aa4 (yd (aa (v_var rfl) az) (TQ n z.hz (by have:=z.nl;omega) hp hb hg (let ⟨lk,w⟩:=hn.walk;⟨lk,fun T=>w p2⟩) WP))),by simp only [Vl.nr]⟩
  | item hN j p hp hb hg=>
   obtain ⟨η,he⟩:=abD (nm:=nm) (nv:=nv) n z zH hS hp hb hg
   exact ⟨η,aq (vg n z hn hS hN) (cA he),by simp only [Vl.nr]⟩
  | tgt hN hI hb=>
   obtain ⟨a3,a4,a5,h3⟩:=Dj (nm:=nm) (nv:=nv) n z zH hS hI
   have ht:=N6 (S:=S) n z hn zH a3 a4 a5 (S':=S++[.ins "Web" [] []]) p1
   rw [hb] at ht
   exact ⟨_,aq (vg n z hn hS hN) (aq h3 (cA (cQ _ ht (cA (x_raise (VJ aj) (eG (n+2))))))),by simp only [Vl.nr]⟩
  | many hN hI hT h6=>
   obtain ⟨a3,a4,a5,h3⟩:=Dj (nm:=nm) (nv:=nv) n z zH hS hI
   have ht:=N6 (S:=S) n z hn zH a3 a4 a5 (S':=S++[.ins "Web" [] []]) p1
   rw [hT] at ht
   by_cases n6:6<nm.length
   ·exact ⟨_,aq (vg n z hn hS hN) (aq h3 (aq (bD _ ht aM) (cA (cQ _ (O3 (aK (dG (v_var rfl) (hnl _)) aj (congrArg some (decide_eq_true (by omega))))) (cA (x_raise aj (eG (n+2)))))))),by simp only [Vl.nr]⟩
   ·exact ⟨_,aq (vg n z hn hS hN) (aq h3 (aq (bD _ ht aM) (cA (cQ _ (t8 (aK (dG (v_var rfl) (hnl _)) aj (congrArg some (decide_eq_false (by omega)))) (aK (dG (v_var rfl) (Rp _)) aj (congrArg some (decide_eq_true (by omega))))) (cA (x_raise aj (eG (n+2)))))))),by simp only [Vl.nr]⟩
  | met hN hI hT hf h2 hm=>
   obtain ⟨a3,a4,a5,h3⟩:=Dj (nm:=nm) (nv:=nv) n z zH hS hI
   have ht:=N6 (S:=S) n z hn zH a3 a4 a5 (S':=S++[.ins "Web" [] []]) p1
   rw [hT] at ht
   have h6:=hf.n6
   exact ⟨_,aq (vg n z hn hS hN) (aq h3 (aq (bD _ ht aM) (aq (bD _ (t8 (aK (dG (v_var rfl) (hnl _)) aj (congrArg some (decide_eq_false (by omega)))) (aK (dG (v_var rfl) (Rp _)) aj (congrArg some (decide_eq_false (by omega))))) aM) (aq (bz _ _ (bJ (aa (v_var rfl) (aa (v_var rfl) az)) (aeP (n+1) hf hn.up zH.up WP)) rfl) (cA (cQ _ (aK (dG (v_var rfl) (mK _ _)) (dG (v_var rfl) (Rp _)) (congrArg some (decide_eq_true (by rw [List.length_map];omega)))) (cA (x_raise aj (eG (n+2)))))))))),by simp only [Vl.nr]⟩
 obtain ⟨η,he,hx⟩:=key
 exact abJ (T:=[]) rfl (by rw [List.append_nil];exact he) hS (by simp [Ob.nr,dH]) (fun ns vs e=>by cases e;simp [dH,hx])
end K04
namespace K04
open PySem L2 Oz
def lk:cY→Str→Option Int
 | [],_=>none
 | p::l,z=>if p.1=z then some p.2 else lk l z
theorem Xh (z:Str):∀ ld:cY,cD (ld.map fun p=>(Sum.inr p.1:Key)) (ld.map fun p=>Vl.int p.2) (Sum.inr z)=(lk ld z).map Vl.int
 | []=>rfl
 | p::ld=>by
  simp only [List.map_cons,cD,lk]
  by_cases c:p.1=z
  ·rw [if_pos (by rw [c]),if_pos c];rfl
  ·rw [if_neg (fun q=>c (Sum.inr.inj q)),if_neg c,Xh z ld]
theorem Xi {p:Str × Int}:∀ {ld:cY},(ld.map (·.1)).Nodup→p∈ld→lk ld p.1=some p.2
 | [],_,h=>by cases h
 | q::ld,nd,h=>by
  simp only [List.map_cons,List.nodup_cons] at nd
  simp only [lk]
  rcases List.mem_cons.mp h with e | h
  ·subst e;rw [if_pos rfl]
  ·rw [if_neg fun e=>nd.1 (by rw [e];exact List.mem_map.mpr ⟨p,h,rfl⟩)]
   exact Xi nd.2 h
def rv (ld:cY) (it:Its):Vl:=.tup [.lst (valN ld),.lst (aY it)]
theorem Z8 (ld:cY) (it:Its):(rv ld it).nr=true:=by simp only [rv,Vl.nr,dH,Ou,qQ,Bool.and_self]
end K04
namespace K04
open PySem L2 Oz
theorem vA {S T:Hs} {r:Nat} {o:Ob} (h:S[r]? =some o):(S++T)[r]? =some o:=by
 rw [List.getElem?_append_left (List.getElem?_eq_some_iff.mp h).1];exact h
theorem Zv {S:Hs} {v:Vl} {f:List Int} {t:Int} (h:cV S v=some (f.map .int)) (hd:aX S v=none) (hv:∀ y,v≠.str y):lX S (.int t) v=some (decide (t∈f)):=by
 have hf:(f.map Vl.int).all Vl.flat=true:=List.all_eq_true.mpr fun x hx=>by
  obtain ⟨y,_,rfl⟩:=List.mem_map.mp hx
  rfl
 have ha:((f.map Vl.int).any fun z=>eqF z (.int t))=decide (t∈f):=by
  clear h hf
  induction f with
  | nil=>simp
  | cons y f ih=>
   rw [List.map_cons,List.any_cons,ih]
   simp only [eqF]
   by_cases c:y=t
   ·subst c;simp
   ·simp [c,Ne.symm c]
 unfold lX
 split
 ·rename_i z
  exact absurd rfl (hv z)
 ·rw [hd]
  simp only [h]
  rw [hf]
  simp only [Vl.flat,Bool.and_self,if_true,ha]
theorem Vn {u:Int}:∀ {F:List Int} {vs:List Vl},F.length=vs.length→u∈F→cD (F.map (Sum.inl:Int→Key)) vs (Sum.inl u)=vs[F.idxOf u]?
 | [],_,_,h=>by cases h
 | x::F,[],h,_=>by simp at h
 | x::F,v::vs,h,hu=>by
  simp only [List.map_cons,cD]
  by_cases c:x=u
  ·subst c;rw [if_pos rfl];simp
  ·have e3:(x::F).idxOf u=F.idxOf u+1:=by simp only [List.idxOf_cons,beq_eq_false_iff_ne.mpr c,cond_false]
   rw [if_neg (fun z=>c (Sum.inl.inj z)),e3,List.getElem?_cons_succ]
   exact Vn (by simpa using h) ((List.mem_cons.mp hu).resolve_left fun e=>c e.symm)
def CK (vs:List Vl):Ob:=.dct ((dI vs.length).map Sum.inl) vs
def Bm (nm:cY):Ob:=.dct (nm.map fun p=>Sum.inr p.1) (nm.map fun p=>.int p.2)
theorem aeQ {S:Hs} {v:Vl} {vs:List Vl} {x:Int} (h:aX S v=some ((dI vs.length).map Sum.inl,vs)) (hx:U3 vs.length x):dM S v (.int x)=vs[(x - 1).toNat]? :=by
 rw [Ul h,Vn (oh _) (yK.mpr hx)]
 have:(dI vs.length)[(x - 1).toNat]? =some x:=by
  have:=hx.1
  have:=hx.2
  rw [CZ (by omega)]
  congr 1
  omega
 rw [Nh (Ud _) this]
theorem aeW {S:Hs} {v:Vl} {nm:cY} {p:Str × Int} (h:aX S v=some (nm.map fun p=>Sum.inr p.1,nm.map fun p=>.int p.2)) (nd:(nm.map (·.1)).Nodup) (hp:p∈nm):dM S v (.str p.1)=some (.int p.2):=by
 rw [adp h,Xh,Xi nd hp];rfl
theorem Wt {S:Hs} {v:Vl} {nm:cY} (h:aX S v=some (nm.map fun p=>Sum.inr p.1,nm.map fun p=>.int p.2)) (hl:nm.length<64):Et S v=some (((bK nm).map (·.1)).map .str):=by
 have ak:∀ nm:cY,O6 (nm.map fun p=>(Sum.inr p.1:Key))=some (nm.map (·.1)):=fun nm=>by
  induction nm with
  | nil=>rfl
  | cons p nm ih=>simp only [List.map_cons,O6,ih,Option.map_some]
 unfold Et
 rw [h]
 simp only [ak]
 rw [if_pos (by rw [List.length_map];exact (Nat.le_trans (Nat.le_of_lt hl) (by decide)))]
 congr 2
 exact (BV (fun p:Str × Int=>p.1) nm).symm
theorem afa {M:aF} {η:Sg} {S:Hs} {f:List Int} {e:E} {t:Int} (h2:η[2]? =some (some (.ref S.length))) (he:ev M e η (S++[.lst (f.map .int)])=.ok (.int t) (S++[.lst (f.map .int)])) (hl:f.length≤1000) :
  exec M (.cons (.ite (.band (.cmp .Gt e (.cst (.int 0))) (.cmp .NotIn e (.var 2))) (.cons (.ex (.mut .append (.var 2) (.cons e .nil))) .nil) .nil) .nil) η (S++[.lst (f.map .int)])=.nx η (S++[.lst ((gM f t).map .int)]):=by
 have mem:cmpop .NotIn (S++[.lst (f.map .int)]) (.int t) (.ref S.length)=some (!decide (t∈f)):=by
  simp only [cmpop]
  rw [Zv (f:=f) (by simp only [cV,List.getElem?_concat_length]) (by simp only [aX,List.getElem?_concat_length]) (by intro y z;cases z)]
  rfl
 by_cases c:0<t
 ·by_cases d:t∈f
  ·rw [decide_eq_true d] at mem
   rw [show gM f t=f from if_neg fun z=>z.2 d]
   exact aq (bD _ (pB (aK he aj (congrArg some (decide_eq_true c))) (aK he (v_var h2) mem)) aM) aM
  ·rw [decide_eq_false d] at mem
   rw [show gM f t=f++[t] from if_pos ⟨c,d⟩]
   refine aq (cQ _ (pB (aK he aj (congrArg some (decide_eq_true c))) (aK he (v_var h2) mem)) (aq (M9 _ _ (Bt (k:=S.length) (ys:=f.map .int) (v_var h2) (ju _ _) (aa he az) List.getElem?_concat_length (kh (by rw [List.length_map];omega)))) aM)) ?_
   rw [iT,List.map_append]
   exact aM
 ·rw [show gM f t=f from if_neg fun z=>c z.1]
  exact aq (bD _ (wG (aK he aj (congrArg some (decide_eq_false c)))) aM) aM
theorem acI (n:Nat) {nm:cY} {it:Its} (h:Rx nm it) {S:Hs} {v1 v2:Vl} (hS:NR S) (d1:∀ T,aX (S++T) v1=some (nm.map fun p=>Sum.inr p.1,nm.map fun p=>.int p.2)) (d2:∀ T,aX (S++T) v2=some ((dI (aY it).length).map Sum.inl,aY it)) (hln:∀ T,ir .len (S++T) v2=some (.int it.length)):(Mn (n+1)).cal "_law_met" [v1,v2] S=.ok (.frs (.lst ((ord nm it).map .int))) S:=by
 rw [Zz]
 have n6:=h.n6
 have i6:=h.i6
 have names:∃ a3,forL (fun η1 S2=>exec (Mn n) M7 η1 S2) (.nm 3) [] (((bK nm).map (·.1)).map .str) [some v1,some v2,some (.ref S.length),none,none,none] (S++[.lst (([]:List Int).map .int)])
   =.nx [some v1,some v2,some (.ref S.length),a3,none,none] (S++[.lst ((push [] ((bK nm).map (·.2))).map .int)]):=by
  obtain ⟨η',S',g1,a3,e1,e2⟩:=ie (body:=fun η1 S2=>exec (Mn n) M7 η1 S2) (t:=.nm 3) (lk:=[]) (xs:=((bK nm).map (·.1)).map .str) (η:=[some v1,some v2,some (.ref S.length),none,none,none]) (S:=S++[.lst (([]:List Int).map .int)])
   (fun i η S'=>∃ a3,η=[some v1,some v2,some (.ref S.length),a3,none,none]∧S'=S++[.lst ((push [] (((bK nm).map (·.2)).take i)).map .int)])
   ⟨none,rfl,rfl⟩ (fun i η S' _=>aU _) fun i x η S' hx ⟨a3,e1,e2⟩=>by
    subst e1 e2
    rw [List.getElem?_map,List.getElem?_map] at hx
    obtain ⟨z,hz,rfl⟩:=Option.map_eq_some_iff.mp hx
    obtain ⟨p,hp,rfl⟩:=Option.map_eq_some_iff.mp hz
    have zG:((bK nm).map (·.2))[i]? =some p.2:=by rw [List.getElem?_map,hp];rfl
    have Sh:=(bZ nm).mem_iff.mp (List.mem_of_getElem? hp)
    have q:=yc (f:=[]) (ts:=((bK nm).map (·.2)).take i)
    have q3:=List.length_take_le' i ((bK nm).map (·.2))
    rw [List.length_map,(bZ nm).length_eq] at q3
    refine ⟨_,rfl,_,_,.inl (afa (t:=p.2) rfl (du (v_var rfl) (v_var rfl) (aeW (d1 _) h.nd Sh)) (by simp only [List.length_nil] at q;omega)),_,rfl,?_⟩
    rw [cO zG,mV]
  subst e1
  rw [List.take_of_length_le (by rw [List.length_map,List.length_map,List.length_map];exact Nat.le_refl _)] at e2
  subst e2
  exact ⟨a3,g1⟩
 obtain ⟨a3,hnm⟩:=names
 have pts:∃ a4 a5,forL (fun η1 S2=>exec (Mn n) NT η1 S2) (.nm 4) [] (jg 0 it.length) [some v1,some v2,some (.ref S.length),a3,none,none] (S++[.lst ((push [] ((bK nm).map (·.2))).map .int)])
   =.nx [some v1,some v2,some (.ref S.length),a3,a4,a5] (S++[.lst ((ord nm it).map .int)]):=by
  obtain ⟨η',S',g1,a4,a5,f,e1,e2,e3⟩:=ie (body:=fun η1 S2=>exec (Mn n) NT η1 S2) (t:=.nm 4) (lk:=[]) (xs:=jg 0 it.length) (η:=[some v1,some v2,some (.ref S.length),a3,none,none]) (S:=S++[.lst ((push [] ((bK nm).map (·.2))).map .int)])
   (fun i η S'=>∃ a4 a5 f,η=[some v1,some v2,some (.ref S.length),a3,a4,a5]∧S'=S++[.lst (f.map .int)]∧vN (fH it) (it.length - i) i f=ord nm it)
   ⟨none,none,_,rfl,rfl,rfl⟩ (fun i η S' _=>aU _) fun i x η S' hx ⟨a4,a5,f,e1,e2,e3⟩=>by
    subst e1 e2
    obtain ⟨hi,rfl⟩:=rP hx
    have pre:f<+:ord nm it:=by rw [← e3];exact kE
    have hfl:=pre.length_le
    have hol:=qI h
    have mZ:ir .len (S++[.lst (f.map .int)]) (.ref S.length)=some (.int f.length):=by
     simp only [ir,aX,cV,List.getElem?_concat_length,Option.map_some,List.length_map]
    have hd:it.length - i=(it.length - (i+1))+1:=by omega
    rw [hd] at e3
    unfold vN at e3
    by_cases c:i<f.length
    ·have hx:f[i]? =some f[i]:=List.getElem?_eq_getElem c
     rw [hx] at e3
     simp only at e3
     have aat:=qD h f[i] (pre.subset (List.getElem_mem c))
     obtain ⟨p,hp,hnx,_⟩:=Fv aat
     rw [hnx] at e3
     have Sh:=List.mem_of_getElem? hp
     have ix1:dM (S++[.lst (f.map .int)]) (.ref S.length) (.int i)=some (.int f[i]):=by
      show (match aX (S++[.lst (f.map .int)]) (.ref S.length) with | some (ks,vs)=>_ | none=>_)=_
      simp only [aX,cV,List.getElem?_concat_length]
      exact jT (S:=[]) (by rw [List.getElem?_map,hx];rfl)
     have ix2:dM (S++[.lst (f.map .int)]) v2 (.int f[i])=some (.tup [.str p.1,.tup (p.2.map .int)]):=by
      rw [aeQ (d2 _) (by rw [fV];exact aat)]
      exact pF hp
     have inner:∃ b5,forL (fun η1 S2=>exec (Mn n) M3 η1 S2) (.nm 5) [] (p.2.map .int) [some v1,some v2,some (.ref S.length),a3,some (.int i),a5] (S++[.lst (f.map .int)])=.nx [some v1,some v2,some (.ref S.length),a3,some (.int i),b5] (S++[.lst ((push f p.2).map .int)]):=by
      obtain ⟨η',S',g1,b5,e1,e2⟩:=ie (body:=fun η1 S2=>exec (Mn n) M3 η1 S2) (t:=.nm 5) (lk:=[]) (xs:=p.2.map .int) (η:=[some v1,some v2,some (.ref S.length),a3,some (.int i),a5]) (S:=S++[.lst (f.map .int)])
       (fun j η S'=>∃ b5,η=[some v1,some v2,some (.ref S.length),a3,some (.int i),b5]∧S'=S++[.lst ((push f (p.2.take j)).map .int)])
       ⟨a5,rfl,rfl⟩ (fun j η S' _=>aU _) fun j x η S' hx ⟨b5,e1,e2⟩=>by
        subst e1 e2
        rw [List.getElem?_map] at hx
        obtain ⟨t,ht,rfl⟩:=Option.map_eq_some_iff.mp hx
        have q:=yc (f:=f) (ts:=p.2.take j)
        have q3:=List.length_take_le' j p.2
        have:=h.h2 p Sh
        refine ⟨_,rfl,_,_,.inl (afa (t:=t) rfl (v_var rfl) (by omega)),_,rfl,?_⟩
        rw [cO ht,mV]
      subst e1
      rw [List.take_of_length_le (by rw [List.length_map];exact Nat.le_refl _)] at e2
      subst e2
      exact ⟨b5,g1⟩
     obtain ⟨b5,hin⟩:=inner
     exact ⟨_,rfl,_,_,.inl (aq (cQ _ (aK (v_var rfl) (dG (v_var rfl) mZ) (congrArg some (decide_eq_true (by omega)))) (aq (jJ _ _ _ (iG (du (du (v_var rfl) (du (v_var rfl) (v_var rfl) ix1) ix2) aj (ix_tup (i:=1) rfl)) rfl) hin) aM)) aM),_,_,_,rfl,rfl,e3⟩
    ·have en:f[i]? =none:=List.getElem?_eq_none (by omega)
     rw [en] at e3
     simp only at e3
     refine ⟨_,rfl,_,_,.inl (aq (bD _ (aK (v_var rfl) (dG (v_var rfl) mZ) (congrArg some (decide_eq_false (by omega)))) aM) aM),_,_,f,rfl,rfl,?_⟩
     rw [← e3]
     cases it.length - (i+1) with
     | zero=>rfl
     | succ d=>
      unfold vN
      rw [List.getElem?_eq_none (by omega)]
  subst e1 e2
  rw [iw,Nat.sub_self] at e3
  have ef:f=ord nm it:=e3
  subst ef
  exact ⟨a4,a5,g1⟩
 obtain ⟨a4,a5,hp⟩:=pts
 refine uX (T:=[.lst ((ord nm it).map .int)]) (r:=0) rfl ?_ hS rfl (by simp only [Ob.nr,dW])
 show exec (Mn n) ZM [some v1,some v2,none,none,none,none] S=_
 exact aq (bz _ _ (m9 (lL az (show 0≤1000000 by decide))) rfl) (aq (jJ _ _ _ (iG (dw (TX (v_var rfl) (Wt (d1 _) (by omega)))) rfl) hnm) (aq (jJ _ _ _ (mO (dG (v_var rfl) (hln _)) (by omega)) hp) (bA (dJ _ _ (v_var rfl)))))
theorem ahg (n:Nat) {nm:cY} {it:Its} (h:Rx nm it) {S:Hs} {r1 r2:Nat} (hS:NR S) (h1:S[r1]? =some (Bm nm)) (h2:S[r2]? =some (CK (aY it))):(Mn (n+1)).cal "_law_met" [.ref r1,.ref r2] S=.ok (.frs (.lst ((ord nm it).map .int))) S:=
 acI n h hS (fun T=>by simp only [aX,vA h1,Bm]) (fun T=>by simp only [aX,vA h2,CK]) fun T=>by simp only [ir,aX,vA h2,CK,List.length_map,oh,fV]
def base (u:Int):Option Int:=if u= -1 then some (-1) else if u=0 then some 0 else none
def BX (F:List Int) (i:Nat) (u:Int):Option Int:=if u∈F.take i then some ((F.idxOf u:Int)+1) else base u
theorem Yz {F:List Int} (pos:∀ x∈F,0<x) {t:Int} (h: -1≤t) (k:0<t→t∈F):BX F F.length t=some (anew F t):=by
 unfold BX anew base
 rw [List.take_length]
 by_cases c:0<t
 ·rw [if_pos (k c),if_pos c]
 ·rw [if_neg (fun z=>c (pos t z)),if_neg c]
  by_cases d:t= -1
  ·rw [if_pos d,d]
  ·rw [if_neg d,if_pos (show t=0 by omega),show t=0 by omega]
theorem T6 {F:List Int} (nd:F.Nodup) {i:Nat} {x:Int} (e:F[i]? =some x) (u:Int):(if u=x then some ((i:Int)+1) else BX F i u)=BX F (i+1) u:=by
 unfold BX
 rw [cO e]
 by_cases c:u=x
 ·subst c
  rw [if_pos rfl,if_pos (by simp),Nh nd e]
 ·rw [if_neg c]
  by_cases d:u∈F.take i
  ·rw [if_pos d,if_pos (List.mem_append_left _ d)]
  ·rw [if_neg d,if_neg (by simp [d,c])]
theorem acG:Dm (putD [Sum.inl 0] [.int 0] (Sum.inl (-1)) (.int (-1))).1 (putD [Sum.inl 0] [.int 0] (Sum.inl (-1)) (.int (-1))).2 base:=by
 have h0:Dm [Sum.inl 0] [.int 0] fun u=>if u=0 then some 0 else none:=⟨rfl,by simp [dH,Vl.nr],fun t=>by
  simp only [cD]
  by_cases c:t=0
  ·subst c;simp
  ·have:¬ (Sum.inl 0:Key)=Sum.inl t:=fun z=>c (Sum.inl.inj z).symm
   simp [c,this]⟩
 exact (h0.put (-1) (-1)).congr fun t=>rfl
def fNm (nm:cY) (o:List Int) (v:Vl):Vl:=match v with
 | .str z=>.tup [.str z,.int (anew o ((lk nm z).getD 0))]
 | _=>.non
theorem acF (n:Nat) {nm:cY} {it:Its} (h:Rx nm it) {S:Hs} {r1 r2:Nat} (hS:NR S) (h1:S[r1]? =some (Bm nm)) (h2:S[r2]? =some (CK (aY it))):(Mn (n+2)).cal "_law_canon" [.ref r1,.ref r2] S=.ok (.val (rv (eO nm it) (jf nm it))) S:=by
 rw [Pu]
 have n6:=h.n6
 have i6:=h.i6
 have hol:=qI h
 obtain ⟨c1,c2⟩:=Ml h
 have pos:∀ x∈ord nm it,0<x:=fun x hx=>by have:=(qD h x hx).1;omega
 have d1:∀ T,aX (S++T) (.ref r1)=some (nm.map fun p=>Sum.inr p.1,nm.map fun p=>.int p.2):=fun T=>by simp only [aX,vA h1,Bm]
 have d2:∀ T,aX (S++T) (.ref r2)=some ((dI (aY it).length).map Sum.inl,aY it):=fun T=>by simp only [aX,vA h2,CK]
 have loop:∃ a4 ks vs,forL (fun η1 S2=>exec (Mn (n+1)) Bh η1 S2) (.nm 4) [] (jg 0 (ord nm it).length) [some (.ref r1),some (.ref r2),some (.lst ((ord nm it).map .int)),some (.ref S.length),none,none,none,none,none] (S++[.dct (putD [Sum.inl 0] [.int 0] (Sum.inl (-1)) (.int (-1))).1 (putD [Sum.inl 0] [.int 0] (Sum.inl (-1)) (.int (-1))).2])
   =.nx [some (.ref r1),some (.ref r2),some (.lst ((ord nm it).map .int)),some (.ref S.length),a4,none,none,none,none] (S++[.dct ks vs])∧Dm ks vs (BX (ord nm it) (ord nm it).length):=by
  obtain ⟨η',S',g1,a4,ks,vs,e1,e2,e3,e4⟩:=ie (body:=fun η1 S2=>exec (Mn (n+1)) Bh η1 S2) (t:=.nm 4) (lk:=[]) (xs:=jg 0 (ord nm it).length) (η:=[some (.ref r1),some (.ref r2),some (.lst ((ord nm it).map .int)),some (.ref S.length),none,none,none,none,none]) (S:=S++[.dct (putD [Sum.inl 0] [.int 0] (Sum.inl (-1)) (.int (-1))).1 (putD [Sum.inl 0] [.int 0] (Sum.inl (-1)) (.int (-1))).2])
   (fun i η S'=>∃ a4 ks vs,η=[some (.ref r1),some (.ref r2),some (.lst ((ord nm it).map .int)),some (.ref S.length),a4,none,none,none,none]∧S'=S++[.dct ks vs]∧Dm ks vs (BX (ord nm it) i)∧ks.length≤2+i)
   ⟨none,_,_,rfl,rfl,acG.congr fun t=>by unfold BX;rw [List.take_zero,if_neg (by simp)],by decide⟩ (fun i η S' _=>aU _) fun i x η S' hx ⟨a4,ks,vs,e1,e2,e3,e4⟩=>by
    subst e1 e2
    obtain ⟨hi,rfl⟩:=rP hx
    have hxo:(ord nm it)[i]? =some (ord nm it)[i]:=List.getElem?_eq_getElem hi
    have anm:=(MP (k:=Sum.inl (ord nm it)[i]) (y:=.int ((i:Int)+1)) e3.1).2
    refine ⟨_,rfl,_,_,.inl (aq (rE (aW (v_var rfl) aj (eZ _ _)) (v_var rfl) (du (v_var rfl) (v_var rfl) (jT (by rw [List.getElem?_map,hxo];rfl))) (jP (kk:=Sum.inl (ord nm it)[i]) List.getElem?_concat_length rfl (by omega))) aM),_,_,_,rfl,by rw [iT],(e3.put _ _).congr (T6 HD hxo),by omega⟩
  subst e1 e2
  rw [iw] at e3
  exact ⟨a4,ks,vs,g1,e3⟩
 obtain ⟨a4,ks,vs,hlp,hD⟩:=loop
 have ixA:∀ (T:Hs) (t:Int),-1≤t→(0<t→t∈ord nm it)→dM (S++[.dct ks vs]++T) (.ref S.length) (.int t)=some (.int (anew (ord nm it) t)):=fun T t g1 g2=>by
  rw [Ul (ks:=ks) (vs:=vs) (by simp only [aX,vA List.getElem?_concat_length]),hD.2.2 t,Yz pos g1 g2];rfl
 have names:d9 (Mn (n+1)) Aq [some (.ref r1),some (.ref r2),some (.lst ((ord nm it).map .int)),some (.ref S.length),a4,none,none,none,none] (S++[.dct ks vs])=.ok (.lst (valN (eO nm it))) (S++[.dct ks vs]):=by
  unfold Aq
  have e0:valN (eO nm it)=(((bK nm).map (·.1)).map Vl.str).map (fNm nm (ord nm it)):=by
   unfold valN eO
   rw [List.map_map,List.map_map,List.map_map]
   refine List.map_congr_left fun p hp=> ?_
   have:=Xi h.nd ((bZ nm).mem_iff.mp hp)
   simp only [Function.comp,fNm,this,Option.getD_some]
  rw [e0]
  have akV:pC (Mn (n+1)) (.sq (.inl (.XR (.var 0)))) [some (.ref r1),some (.ref r2),some (.lst ((ord nm it).map .int)),some (.ref S.length),a4,none,none,none,none] (S++[.dct ks vs])=.ok ([],((bK nm).map (·.1)).map .str) (S++[.dct ks vs]):=iG (dw (TX (v_var rfl) (Wt (d1 _) (by omega)))) rfl
  refine fO [] (((bK nm).map (·.1)).map .str) (fNm nm (ord nm it)) akV (aU _) (by rw [List.length_map,List.length_map,(bZ nm).length_eq];omega) (fun x hx=>by
   obtain ⟨z,_,rfl⟩:=List.mem_map.mp hx
   simp only [fNm,Vl.nr,dH,Bool.and_self]) fun x hx aQ _=> ?_
  obtain ⟨z,hz,rfl⟩:=List.mem_map.mp hx
  obtain ⟨p,hp,rfl⟩:=List.mem_map.mp hz
  have Sh:=(bZ nm).mem_iff.mp hp
  refine ⟨_,rfl,?_⟩
  show ev _ _ _ _=.ok (.tup [.str p.1,.int (anew (ord nm it) ((lk nm p.1).getD 0))]) _
  rw [Xi h.nd Sh,Option.getD_some]
  exact iK (aa (v_var rfl) (aa (du (v_var rfl) (du (v_var rfl) (v_var rfl) (by rw [List.append_assoc];exact aeW (d1 _) h.nd Sh)) (ixA _ _ (h.ht p Sh).1 (c1 p Sh))) az)) (show 2≤1000000 by decide)
 have aar:d9 (Mn (n+1)) Bj [some (.ref r1),some (.ref r2),some (.lst ((ord nm it).map .int)),some (.ref S.length),a4,some (.lst (valN (eO nm it))),none,none,none] (S++[.dct ks vs])=.ok (.lst (aY (jf nm it))) (S++[.dct ks vs]):=by
  rw [KY]
  unfold Bj
  refine fO [] ((ord nm it).map .int) (Pk it (ord nm it)) (iG (v_var rfl) rfl) (aU _) (by rw [List.length_map];omega) (fun x hx=>by
   obtain ⟨y,_,rfl⟩:=List.mem_map.mp hx
   simp only [Pk,Vl.nr,dH,dW,Bool.and_self]) fun x hx aQ _=> ?_
  obtain ⟨y,hy,rfl⟩:=List.mem_map.mp hx
  have aaR:=qD h y hy
  obtain ⟨p,hp,hnx,hwo⟩:=Fv aaR
  have ixI:∀ T,dM (S++T) (.ref r2) (.int y)=some (.tup [.str p.1,.tup (p.2.map .int)]):=fun T=>by
   rw [aeQ (d2 _) (by rw [fV];exact aaR)]
   exact pF hp
  refine ⟨_,rfl,?_⟩
  show ev _ _ _ _=.ok (.tup [.str (Ui it y),.tup (((fH it y).map (anew (ord nm it))).map .int)]) _
  rw [hwo,hnx]
  refine iK (aa (du (du (v_var rfl) (v_var rfl) (by rw [List.append_assoc];exact ixI _)) aj (ix_tup (i:=0) rfl)) (aa (dG (dw (o:=.lst ((p.2.map (anew (ord nm it))).map .int)) ?_) rfl) az)) (show 2≤1000000 by decide)
  unfold Kc
  have e:(p.2.map (anew (ord nm it))).map Vl.int=(p.2.map Vl.int).map (fun v=>match v with | .int t=>.int (anew (ord nm it) t) | _=>.non):=by
   rw [List.map_map,List.map_map];rfl
  rw [e]
  refine fO [] (p.2.map .int) _ (iG (du (du (v_var rfl) (v_var rfl) (by rw [List.append_assoc];exact ixI _)) aj (ix_tup (i:=1) rfl)) rfl) (aU _) (by rw [List.length_map];have:=h.h2 p (List.mem_of_getElem? hp);omega) (fun x hx=>by
   obtain ⟨t,_,rfl⟩:=List.mem_map.mp hx
   simp only [Vl.nr]) fun x hx acf _=> ?_
  obtain ⟨t,ht,rfl⟩:=List.mem_map.mp hx
  refine ⟨_,rfl,du (v_var rfl) (v_var rfl) ?_⟩
  have ht':t∈fH it y:=by rw [hnx];exact ht
  have:=ixA ([.lst aQ]++[.lst acf]) t (Rk h y t ht').1 (c2 y hy t ht')
  rw [← List.append_assoc] at this
  exact this
 refine dh (T:=[.dct ks vs]) rfl ?_ hS (Z8 _ _)
 show exec (Mn (n+1)) Pg [some (.ref r1),some (.ref r2),none,none,none,none,none,none,none] S=_
 have hd:d9 (Mn (n+1)) (.xR [Sum.inl 0] (.cons (.cst (.int 0)) .nil)) [some (.ref r1),some (.ref r2),some (.lst ((ord nm it).map .int)),none,none,none,none,none,none] S=.ok (.dct [Sum.inl 0] [.int 0]) S:=
  aa1 (aa aj az) (by simp [dH,Vl.nr]) (by decide) rfl (by decide)
 refine aq (bz _ _ (bJ (aa (v_var rfl) (aa (v_var rfl) az)) (ahg n h hS h1 h2)) rfl) (aq (bz _ _ (m9 hd) rfl) (aq (rE (aW aj aj (show binop .Sub (.int 0) (.int 1)=some (.int (-1)) from rfl)) (v_var rfl) (aW aj aj (show binop .Sub (.int 0) (.int 1)=some (.int (-1)) from rfl)) (jP (kk:=Sum.inl (-1)) List.getElem?_concat_length rfl (show 1≤1000000 by decide))) ?_))
 rw [iT]
 exact aq (jJ _ _ _ (mO (dG (v_var rfl) (by rw [Rv.v,Ob.inl,mK,List.length_map])) (by omega)) hlp) (aq (bz _ _ (dw names) rfl) (bA (dJ _ _ (iK (aa (v_var rfl) (aa (dw aar) az)) (show 2≤1000000 by decide)))))
end K04
namespace K04
open PySem L2 Oz
def itV (p:Str × List Int):Vl:=.tup [.str p.1,.tup (p.2.map .int)]
theorem Yj (n:Nat):dI (n+1)=dI n++[(n:Int)+1]:=by
 unfold dI
 rw [List.range_succ,List.map_append];rfl
theorem acU {n:Nat} {vs:List Vl} {y:Vl}:putD ((dI n).map (Sum.inl:Int→Key)) vs (Sum.inl ((n:Int)+1)) y=((dI (n+1)).map Sum.inl,vs++[y]):=by
 rw [uf (fun h=>by
  obtain ⟨x,hx,e⟩:=List.mem_map.mp h
  have:=yK.mp hx
  have:=Sum.inl.inj e
  omega),Yj,List.map_append];rfl
theorem Yl (it:Its) (p:Str × List Int):aY (it++[p])=aY it++[itV p]:=by
 unfold aY
 rw [List.map_append];rfl
end K04
namespace K04
open PySem L2 Oz
def cT (b:Int) (n:Nat):Int:=if b%2=0 then 1 else (n:Int) - 1
def gT (b:Int) (n:Nat) (x:Int):Int:=if 0<x then 1+((x - 1)* cT b n+b)%(n:Int) else x
def gF (c:Int) (n s:Nat) (x:Int):Int:=if 0<x then 1+((x - 1)* c+(s:Int))%(n:Int) else x
def mTn (b:Int) (n i:Nat) (u:Int):Option Int:=if 1≤u∧u≤i then some (gT b n u) else base u
theorem aiq {α:Type} (xs:List α) (c:Nat):tH xs (some (c:Int)) none=xs.drop c:=by
 unfold tH
 rw [HT.sIx_none,HT.sIx_nat]
 by_cases h:c≤xs.length
 ·rw [Nat.min_eq_left h,List.take_of_length_le (by simp)]
 ·rw [Nat.min_eq_right (by omega),List.drop_length,List.drop_of_length_le (by omega)]
  simp
theorem afg {α:Type} (xs:List α) (c:Nat):tH xs none (some (c:Int))=xs.take c:=by
 unfold tH
 rw [HT.sIx_none,HT.sIx_nat]
 simp only [List.drop_zero,Nat.sub_zero]
 by_cases h:c≤xs.length
 ·rw [Nat.min_eq_left h]
 ·rw [Nat.min_eq_right (by omega),List.take_length,List.take_of_length_le (by omega)]
end K04
namespace K04
open PySem L2 Oz
def Sm (b:Nat) (z:Str):Prop:=z.length≤b∧∀ c∈z.cps.toList,c<0x110000
theorem V4 (x y:Str):(x++y).cps.toList=x.cps.toList++y.cps.toList:=by
 show (x.cps++y.cps).toList=_
 simp
theorem Sm.app {a b:Nat} {x y:Str} (h:Sm a x) (k:Sm b y):Sm (a+b) (x++y):=by
 refine ⟨?_,fun c hc=> ?_⟩
 ·show (x++y).cps.toList.length≤_
  rw [V4,List.length_append]
  have h1:x.cps.toList.length≤a:=h.1
  have h2:y.cps.toList.length≤b:=k.1
  omega
 ·rw [V4] at hc
  exact (List.mem_append.mp hc).elim (h.2 c) (k.2 c)
theorem Sm.le {a b:Nat} {x:Str} (h:Sm a x) (l:a≤b):Sm b x:=⟨Nat.le_trans h.1 l,h.2⟩
theorem yt.sm {z:Str} (h:yt z):Sm 6 z:=⟨h.hi,fun c hc=>by
 have:∀ c∈abc.cps.toList,c<0x110000:=by decide
 exact this c (h.al c hc)⟩
theorem VG {z:Str} (h:∀ c∈z.cps.toList,c<0x110000):PyData.strOk z=true:=by
 unfold PyData.strOk
 rw [← Array.all_toList]
 exact List.all_eq_true.mpr fun c hc=>decide_eq_true (h c hc)
structure Item (many:Nat) (p:Str × List Int):Prop where
 w:Sm 8 p.1
 l:p.2.length≤2
 t:∀ t∈p.2,-1≤t∧t≤many
 k:nj p.1 p.2=true
theorem xq {w:Str} {ts us:List Int} (h:ts.length=us.length):nj w ts=nj w us:=by unfold nj;rw [h]
structure Raw (ld:cY) (it:Its):Prop where
 fit:Rx ld it
 hw:∀ p∈ld,yt p.1
 hi:∀ p∈it,Item it.length p
section
variable {S T:Hs} {o o' p:Ob}
theorem gA:(S++o::T)[S.length]? =some o:=by simp
theorem sA:(S++o::T).set S.length o'=S++o'::T:=by simp
theorem aA:S++o::T++[p]=S++o::(T++[p]):=by simp
theorem lA:(S++o::T).length=S.length+1+T.length:=by simp;omega
theorem gB:(S++o::(T++[p]))[S.length+1+T.length]? =some p:=by
 rw [show S++o::(T++[p])=(S++o::T)++[p] by simp,← lA (S:=S) (T:=T) (o:=o)]
 exact List.getElem?_concat_length
theorem sB:(S++o::(T++[p])).set (S.length+1+T.length) o'=S++o::(T++[o']):=by
 rw [show S++o::(T++[p])=(S++o::T)++[p] by simp,← lA (S:=S) (T:=T) (o:=o),iT]
 simp
theorem nA (hS:NR S) (ho:o.nr=true) (hT:NR T):NR (S++o::T):=by
 have:S++o::T=S++[o]++T:=by simp
 rw [this]
 exact (hS.one ho).app hT
end
def uo:Vl:=.lst [.tup [.str "list",.int 0],.tup [.str "seg",.int 1],.tup [.str "dl",.int 2]]
abbrev sr (ns:List Int) (k many size lean turning:Nat) (fs:List Str) (r:Nat) (i:Option Vl) (a11 a12 a13 a14 a15 a16 UW KH Fd DW:Option Vl):Sg:=
 [some (zs ns),some (.int k),some uo,some (.int 13),some (.int many),some (.int size),some (.int lean),some (.int turning),some (.lst (fs.map .str)),some (.ref r),i,a11,a12,a13,a14,a15,a16,UW,KH,Fd,DW]
abbrev Q5 (n:Nat) (x:Int):Prop:= -1≤x∧x≤n
theorem aiL {n:Nat} {x y v d:Int} (hx:Q5 n x) (hy:Q5 n y) (hv:Q5 n v) (hd:0≤d):∃ x' y',Q5 n x'∧Q5 n y'∧∃ j:Nat,d%2=j∧j<2∧([Vl.int x,.int y]:List Vl).set j (.int v)=[.int x',.int y']:=by
 have h0:=Int.emod_nonneg d (show (2:Int)≠0 by omega)
 have h1:=Int.emod_lt_of_pos d (show (0:Int)<2 by omega)
 have:d%2=0∨d%2=1:=by omega
 rcases this with e | e
 ·exact ⟨v,y,hv,hy,0,e,by omega,rfl⟩
 ·exact ⟨x,v,hx,hv,1,e,by omega,rfl⟩
theorem RK {a:Int} {n:Nat}:Q5 n (a%((n:Int)+1)):=by
 have h0:=Int.emod_nonneg a (show ((n:Int)+1)≠0 by omega)
 have h1:=Int.emod_lt_of_pos a (show (0:Int)<(n:Int)+1 by omega)
 exact ⟨by omega,by omega⟩
theorem abf (n:Nat) (ns:List Int) {k many size lean turning i:Nat} {fs:List Str} (hi:i<size) (h6:size≤13) {its:Its} (hl:its.length=i) {S T:Hs} (hS:NR S) (hT:NR T) (a11 a12 a13 a14 a15 a16 UW KH Fd DW:Option Vl) :
  ∃ b11 Ca Br BL Fq Eh Ie T' p,NR T'∧Item size p∧exec (Mn (n+2)) CQ (sr ns k many size lean turning fs S.length (some (.int i)) a11 a12 a13 a14 a15 a16 UW KH Fd DW) (S++ .dct ((dI i).map Sum.inl) (aY its)::T)
   =.nx (sr ns k many size lean turning fs S.length (some (.int i)) b11 Ca Br BL Fq Eh Ie KH Fd DW) (S++ .dct ((dI (i+1)).map Sum.inl) (aY (its++[p]))::T'):=by
 have hN:NR (S++ .dct ((dI i).map Sum.inl) (aY its)::T):=nA hS (by simp only [Ob.nr,qQ]) hT
 obtain ⟨ds,hd,hc⟩:=uv n ns (k:=k+2+i) (sizes:=[5,60,60,12]) (by decide) (by decide) hN
 obtain ⟨w,l,r,far,rfl,hw,hlr,hrr,hfr⟩:=aaS hd
 -- the word
 obtain ⟨z,pl,hz,⟨zG,hwo⟩,hev⟩:∃ z pl,Sm 8 z∧(pl≤2∧nj z (List.replicate pl 0)=true)∧∀ (Ca Br BL Fq Eh Ie:Option Vl) (U:Hs),ev (Mn (n+2)) (.ite (.cmp .Lt (.var 11) (.b1 .len (.var 2))) (.idx (.var 2) (.var 11)) (.tup (.cons (.cst (.str "cell")) (.cons (.cst (.int 2)) .nil)))) (sr ns k many size lean turning fs S.length (some (.int i)) (some (.int w)) Ca Br BL Fq Eh Ie KH Fd DW) U=.ok (.tup [.str z,.int (pl:Nat)]) U:=by
  have aif:w=0∨w=1∨w=2∨3≤w:=by omega
  rcases aif with rfl | rfl | rfl | hw2
  ·exact ⟨"list",0,⟨by decide,by decide⟩,⟨by omega,by decide+kernel⟩,fun _ _ _ _ _ _ U=>lW (aK (v_var rfl) (dG (v_var rfl) rfl) rfl) (du (v_var rfl) (v_var rfl) (jT (i:=0) rfl))⟩
  ·exact ⟨"seg",1,⟨by decide,by decide⟩,⟨by omega,by decide+kernel⟩,fun _ _ _ _ _ _ U=>lW (aK (v_var rfl) (dG (v_var rfl) rfl) rfl) (du (v_var rfl) (v_var rfl) (jT (i:=1) rfl))⟩
  ·exact ⟨"dl",2,⟨by decide,by decide⟩,⟨by omega,by decide+kernel⟩,fun _ _ _ _ _ _ U=>lW (aK (v_var rfl) (dG (v_var rfl) rfl) rfl) (du (v_var rfl) (v_var rfl) (jT (i:=2) rfl))⟩
  ·exact ⟨"cell",2,⟨by decide,by decide⟩,⟨by omega,by decide+kernel⟩,fun _ _ _ _ _ _ U=>rM (aK (v_var rfl) (dG (v_var rfl) rfl) (show some (decide (w<((3:Nat):Int)))=some false from congrArg some (decide_eq_false (by omega)))) (iK (aa aj (aa aj az)) (show 2≤1000000 by decide))⟩
 -- the targets
 have t1:Q5 size (l%((size:Int)+1)):=RK
 have t2:Q5 size (r%((size:Int)+1)):=RK
 have c1:∃ x y,Q5 size x∧Q5 size y∧aP (Mn (n+2)) (.ite (.cmp .Eq (.var 14) (.cst (.int 0))) (.cons (.uH (.var 17) (.bin .Mod (.var 12) (.cst (.int 2))) (.bin .Sub (.cst (.int 0)) (.cst (.int 1)))) .nil) .nil) (sr ns k many size lean turning fs S.length (some (.int i)) (some (.int w)) (some (.int l)) (some (.int r)) (some (.int far)) (some (.str z)) (some (.int (pl:Nat))) (some (.ref (S.length+1+T.length))) KH Fd DW) (S++ .dct ((dI i).map Sum.inl) (aY its)::(T++[.lst [.int (l%((size:Int)+1)),.int (r%((size:Int)+1))]]))
   =.nx (sr ns k many size lean turning fs S.length (some (.int i)) (some (.int w)) (some (.int l)) (some (.int r)) (some (.int far)) (some (.str z)) (some (.int (pl:Nat))) (some (.ref (S.length+1+T.length))) KH Fd DW) (S++ .dct ((dI i).map Sum.inl) (aY its)::(T++[.lst [.int x,.int y]])):=by
  by_cases c:far=0
  ·obtain ⟨x,y,hx,hy,j,ej,hj,es⟩:=aiL (d:=l) (v:= -1) t1 t2 ⟨by omega,by omega⟩ (by omega)
   refine ⟨x,y,hx,hy,cQ _ (aK (v_var rfl) aj (congrArg some (decide_eq_true c))) (aq (rE (aW aj aj (show binop .Sub (.int 0) (.int 1)=some (.int (-1)) from rfl)) (v_var rfl) (aW (v_var rfl) aj (by rw [jy (by decide),ej])) (Q7 gB (by simpa using hj))) ?_)⟩
   rw [sB,es];exact aM
  ·exact ⟨_,_,t1,t2,bD _ (aK (v_var rfl) aj (congrArg some (decide_eq_false c))) aM⟩
 obtain ⟨x,y,hx,hy,e1⟩:=c1
 have c2:∃ x' y',Q5 size x'∧Q5 size y'∧aP (Mn (n+2)) (.ite (.band (.cmp .Gt (.var 14) (.cst (.int 5))) (.cmp .Gt (.var 6) (.cst (.int 0)))) (.cons (.uH (.var 17) (.bin .Mod (.var 13) (.cst (.int 2))) (.mn (.var 5) (.bin .Add (.var 10) (.cst (.int 2))))) .nil) .nil) (sr ns k many size lean turning fs S.length (some (.int i)) (some (.int w)) (some (.int l)) (some (.int r)) (some (.int far)) (some (.str z)) (some (.int (pl:Nat))) (some (.ref (S.length+1+T.length))) KH Fd DW) (S++ .dct ((dI i).map Sum.inl) (aY its)::(T++[.lst [.int x,.int y]]))
   =.nx (sr ns k many size lean turning fs S.length (some (.int i)) (some (.int w)) (some (.int l)) (some (.int r)) (some (.int far)) (some (.str z)) (some (.int (pl:Nat))) (some (.ref (S.length+1+T.length))) KH Fd DW) (S++ .dct ((dI i).map Sum.inl) (aY its)::(T++[.lst [.int x',.int y']])):=by
  have hb:∃ b,ev (Mn (n+2)) (.band (.cmp .Gt (.var 14) (.cst (.int 5))) (.cmp .Gt (.var 6) (.cst (.int 0)))) (sr ns k many size lean turning fs S.length (some (.int i)) (some (.int w)) (some (.int l)) (some (.int r)) (some (.int far)) (some (.str z)) (some (.int (pl:Nat))) (some (.ref (S.length+1+T.length))) KH Fd DW) (S++ .dct ((dI i).map Sum.inl) (aY its)::(T++[.lst [.int x,.int y]]))=.ok (.bl b) (S++ .dct ((dI i).map Sum.inl) (aY its)::(T++[.lst [.int x,.int y]])):=by
   by_cases c:5<far
   ·exact ⟨_,pB (aK (v_var rfl) aj (congrArg some (decide_eq_true c))) (aK (v_var rfl) aj rfl)⟩
   ·exact ⟨_,wG (aK (v_var rfl) aj (congrArg some (decide_eq_false c)))⟩
  obtain ⟨b,hb⟩:=hb
  cases b with
  | true=>
   obtain ⟨x',y',Jg,YZ,j,ej,hj,es⟩:=aiL (d:=r) (v:=if (i:Int)+2<(size:Int) then (i:Int)+2 else (size:Int)) hx hy (by split<;>exact ⟨by omega,by omega⟩) (by omega)
   refine ⟨x',y',Jg,YZ,cQ _ hb (aq (rE (ajg (v_var rfl) (aW (v_var rfl) aj (eZ _ _))) (v_var rfl) (aW (v_var rfl) aj (by rw [jy (by decide),ej])) (Q7 gB (by simpa using hj))) ?_)⟩
   rw [sB,es];exact aM
  | false=>exact ⟨_,_,hx,hy,bD _ hb aM⟩
 obtain ⟨x',y',Jg,YZ,e2⟩:=c2
 have amg:tH [Vl.int x',.int y'] none (some ((pl:Nat):Int))=(([x',y']:List Int).take pl).map .int:=by
  rw [afg,List.map_take];rfl
 have aiv:Item size (z,([x',y']:List Int).take pl):=by
  refine ⟨hz,by show (([x',y']:List Int).take pl).length≤2;rw [List.length_take];exact Nat.min_le_right _ _,fun t ht=> ?_,(xq (by simp;omega)).trans hwo⟩
  ·have:=List.mem_of_mem_take ht
   simp only [List.mem_cons,List.not_mem_nil,or_false] at this
   rcases this with rfl | rfl
   ·exact Jg
   ·exact YZ
 have ek:((k:Int)+2+(i:Int))=((k+2+i:Nat):Int):=by omega
 have s1':aP (Mn (n+2)) (.asg (.tp (.cons (.nm 11) (.cons (.nm 12) (.cons (.nm 13) (.cons (.nm 14) .nil))))) (.call "_law_digits" (.cons (.var 0) (.cons (.bin .Add (.bin .Add (.var 1) (.cst (.int 2))) (.var 10)) (.cons (.inl (.lst (.cons (.bin .Add (.b1 .len (.var 2)) (.cst (.int 2))) (.cons (.cst (.int 60)) (.cons (.cst (.int 60)) (.cons (.cst (.int 12)) .nil)))))) .nil))))) (sr ns k many size lean turning fs S.length (some (.int i)) a11 a12 a13 a14 a15 a16 UW KH Fd DW) (S++ .dct ((dI i).map Sum.inl) (aY its)::T)
   =.nx (sr ns k many size lean turning fs S.length (some (.int i)) (some (.int w)) (some (.int l)) (some (.int r)) (some (.int far)) a15 a16 UW KH Fd DW) (S++ .dct ((dI i).map Sum.inl) (aY its)::T):=
  bz _ _ (bJ (aa (v_var rfl) (aa (aW (aW (v_var rfl) aj (eZ _ _)) (v_var rfl) (by rw [eZ,ek])) (aa (dw (lL (aa (aW (dG (v_var rfl) rfl) aj (show binop .Add (.int ((3:Nat):Int)) (.int 2)=some (.int 5) from rfl)) (aa aj (aa aj (aa aj az)))) (show 4≤1000000 by decide))) az))) hc) rfl
 have s2':aP (Mn (n+2)) (.asg (.tp (.cons (.nm 15) (.cons (.nm 16) .nil))) (.ite (.cmp .Lt (.var 11) (.b1 .len (.var 2))) (.idx (.var 2) (.var 11)) (.tup (.cons (.cst (.str "cell")) (.cons (.cst (.int 2)) .nil))))) (sr ns k many size lean turning fs S.length (some (.int i)) (some (.int w)) (some (.int l)) (some (.int r)) (some (.int far)) a15 a16 UW KH Fd DW) (S++ .dct ((dI i).map Sum.inl) (aY its)::T)
   =.nx (sr ns k many size lean turning fs S.length (some (.int i)) (some (.int w)) (some (.int l)) (some (.int r)) (some (.int far)) (some (.str z)) (some (.int (pl:Nat))) UW KH Fd DW) (S++ .dct ((dI i).map Sum.inl) (aY its)::T):=
  bz _ _ (hev _ _ _ _ _ _ _) rfl
 have s3':aP (Mn (n+2)) (.asg (.nm 17) (.CG (.lst (.cons (.bin .Mod (.var 12) (.bin .Add (.var 5) (.cst (.int 1)))) (.cons (.bin .Mod (.var 13) (.bin .Add (.var 5) (.cst (.int 1)))) .nil))))) (sr ns k many size lean turning fs S.length (some (.int i)) (some (.int w)) (some (.int l)) (some (.int r)) (some (.int far)) (some (.str z)) (some (.int (pl:Nat))) UW KH Fd DW) (S++ .dct ((dI i).map Sum.inl) (aY its)::T)
   =.nx (sr ns k many size lean turning fs S.length (some (.int i)) (some (.int w)) (some (.int l)) (some (.int r)) (some (.int far)) (some (.str z)) (some (.int (pl:Nat))) (some (.ref (S.length+1+T.length))) KH Fd DW) (S++ .dct ((dI i).map Sum.inl) (aY its)::(T++[.lst [.int (l%((size:Int)+1)),.int (r%((size:Int)+1))]])):=by
  have:=m9 (M:=Mn (n+2)) (η:=sr ns k many size lean turning fs S.length (some (.int i)) (some (.int w)) (some (.int l)) (some (.int r)) (some (.int far)) (some (.str z)) (some (.int (pl:Nat))) UW KH Fd DW) (S:=S++ .dct ((dI i).map Sum.inl) (aY its)::T) (lL (aa (aW (a:=.var 12) (v_var rfl) (aW (a:=.var 5) (b:=.cst (.int 1)) (v_var rfl) aj (eZ _ _)) (jy (by omega))) (aa (aW (a:=.var 13) (v_var rfl) (aW (a:=.var 5) (b:=.cst (.int 1)) (v_var rfl) aj (eZ _ _)) (jy (by omega))) az)) (show 2≤1000000 by decide))
  rw [aA,lA] at this
  exact bz _ _ this rfl
 have s6':aP (Mn (n+2)) (.uH (.var 9) (.bin .Add (.var 10) (.cst (.int 1))) (.tup (.cons (.var 15) (.cons (.b1 .tuple (.inl (.slc (.var 17) .none (.some (.var 16))))) .nil)))) (sr ns k many size lean turning fs S.length (some (.int i)) (some (.int w)) (some (.int l)) (some (.int r)) (some (.int far)) (some (.str z)) (some (.int (pl:Nat))) (some (.ref (S.length+1+T.length))) KH Fd DW) (S++ .dct ((dI i).map Sum.inl) (aY its)::(T++[.lst [.int x',.int y']]))
   =.nx (sr ns k many size lean turning fs S.length (some (.int i)) (some (.int w)) (some (.int l)) (some (.int r)) (some (.int far)) (some (.str z)) (some (.int (pl:Nat))) (some (.ref (S.length+1+T.length))) KH Fd DW) (S++ .dct ((dI (i+1)).map Sum.inl) (aY (its++[(z,([x',y']:List Int).take pl)]))::(T++[.lst [.int x',.int y']])):=by
  have aln:ir .tuple (S++ .dct ((dI i).map Sum.inl) (aY its)::(T++[.lst [.int x',.int y']])) (Ob.lst (tH [Vl.int x',.int y'] none (some ((pl:Nat):Int)))).inl=some (.tup ((([x',y']:List Int).take pl).map .int)):=by
   rw [amg];rfl
  have:=rE (M:=Mn (n+2)) (η:=(sr ns k many size lean turning fs S.length (some (.int i)) (some (.int w)) (some (.int l)) (some (.int r)) (some (.int far)) (some (.str z)) (some (.int (pl:Nat))) (some (.ref (S.length+1+T.length))) KH Fd DW)) (S:=S++ .dct ((dI i).map Sum.inl) (aY its)::(T++[.lst [.int x',.int y']])) (y:=itV (z,([x',y']:List Int).take pl)) (a:=.var 9) (b:=.bin .Add (.var 10) (.cst (.int 1))) (e:=.tup (.cons (.var 15) (.cons (.b1 .tuple (.inl (.slc (.var 17) .none (.some (.var 16))))) .nil))) (iK (aa (v_var rfl) (aa (dG (dw (ae0 (xs:=[.int x',.int y']) (v_var rfl) qK (qH (v_var rfl)) (by simp only [bV,gB]))) aln) az)) (show 2≤1000000 by decide)) (v_var rfl) (aW (v_var rfl) aj (eZ _ _)) (jP (kk:=Sum.inl ((i:Int)+1)) gA rfl (by rw [List.length_map,oh];omega))
  rw [sA,acU,← Yl] at this
  exact this
 exact ⟨_,_,_,_,_,_,_,T++[.lst [.int x',.int y']],(z,([x',y']:List Int).take pl),hT.one (by simp [Ob.nr,dH,Vl.nr]),aiv,aq s1' (aq s2' (aq s3' (aq e1 (aq e2 (aq s6' aM)))))⟩
def Np (z:Str) (y:Int) (nm:cY):cY:=nm.map fun p=>(p.1,if p.1=z then y else p.2)
theorem abi (z:Str) (y:Int) (nm:cY):(Np z y nm).map (·.1)=nm.map (·.1):=by
 unfold Np
 rw [List.map_map];rfl
theorem aaj {z:Str} {y:Int} {nm:cY} {p:Str × Int} (h:p∈Np z y nm):p.2=y∨p∈nm:=by
 obtain ⟨q,hq,rfl⟩:=List.mem_map.mp h
 by_cases c:q.1=z
 ·exact .inl (by simp only [if_pos c])
 ·exact .inr (by simp only [if_neg c];exact hq)
theorem abr (z:Str) (y:Int):∀ nm:cY,mU (Sum.inr z) (.int y) (nm.map fun p=>(Sum.inr p.1:Key)) (nm.map fun p=>Vl.int p.2)=(Np z y nm).map fun p=>Vl.int p.2
 | []=>rfl
 | p::nm=>by
  have ih:=abr z y nm
  unfold Np at ih ⊢
  simp only [List.map_cons,mU]
  rw [ih]
  by_cases c:p.1=z
  ·rw [if_pos (by rw [c]),if_pos c]
  ·rw [if_neg (fun h=>c (Sum.inr.inj h)),if_neg c]
theorem ahm {z:Str} {y:Int} {nm:cY} (h:z∈nm.map (·.1)):putD (nm.map fun p=>(Sum.inr p.1:Key)) (nm.map fun p=>Vl.int p.2) (Sum.inr z) (.int y)=((Np z y nm).map fun p=>Sum.inr p.1,(Np z y nm).map fun p=>Vl.int p.2):=by
 unfold putD
 rw [if_pos,abr]
 ·congr 1
  unfold Np
  rw [List.map_map];rfl
 ·obtain ⟨p,hp,e⟩:=List.mem_map.mp h
  exact List.any_eq_true.mpr ⟨Sum.inr p.1,List.mem_map.mpr ⟨p,hp,rfl⟩,decide_eq_true (by rw [e])⟩
theorem acV {z:Str} {y:Int} {nm:cY} (h:z∉nm.map (·.1)):putD (nm.map fun p=>(Sum.inr p.1:Key)) (nm.map fun p=>Vl.int p.2) (Sum.inr z) (.int y)=((nm++[(z,y)]).map fun p=>Sum.inr p.1,(nm++[(z,y)]).map fun p=>Vl.int p.2):=by
 rw [uf (fun hk=>by
  obtain ⟨p,hp,e⟩:=List.mem_map.mp hk
  exact h (List.mem_map.mpr ⟨p,hp,Sum.inr.inj e⟩))]
 simp
theorem raw_name (n:Nat) (ns:List Int) {k many size lean turning i:Nat} {fs:List Str} {z:Str} (hz:fs[i]? =some z) (nd:fs.Nodup) (hf:fs.length≤6) (h6:size≤13) (ht:turning≤100) {nm:cY} (hnm:nm.map (·.1)=fs.take i) {S T:Hs} {sp:Ob} (hS:NR S) (Cp:sp.nr=true) (hT:NR T) (a11 a12 a13 a14 a15 a16 UW Fd DW:Option Vl) :
  ∃ b19 b20 v,Q5 size v∧exec (Mn (n+2)) Dc (sr ns k many size lean turning fs S.length (some (.int i)) a11 a12 a13 a14 a15 a16 UW (some (.ref (S.length+1+T.length))) Fd DW) (S++sp::(T++[Bm nm]))
   =.nx (sr ns k many size lean turning fs S.length (some (.int i)) a11 a12 a13 a14 a15 a16 UW (some (.ref (S.length+1+T.length))) b19 b20) (S++sp::(T++[Bm (nm++[(z,v)])])):=by
 have hN:NR (S++sp::(T++[Bm nm])):=nA hS Cp (hT.one (by simp only [Bm,Ob.nr,zf]))
 obtain ⟨ds,hd,hc⟩:=uv n ns (k:=k+3+i) (sizes:=[90,9]) (by decide) (by decide) hN
 obtain ⟨one,gone,rfl,h1,h2⟩:=ajB hd
 have ek:((k:Int)+3+(i:Int))=((k+3+i:Nat):Int):=by omega
 have Rp:i<fs.length:=(List.getElem?_eq_some_iff.mp hz).1
 have s1':aP (Mn (n+2)) (.asg (.tp (.cons (.nm 19) (.cons (.nm 20) .nil))) (.call "_law_digits" (.cons (.var 0) (.cons (.bin .Add (.bin .Add (.var 1) (.cst (.int 3))) (.var 10)) (.cons (.inl (.lst (.cons (.cst (.int 90)) (.cons (.cst (.int 9)) .nil)))) .nil))))) (sr ns k many size lean turning fs S.length (some (.int i)) a11 a12 a13 a14 a15 a16 UW (some (.ref (S.length+1+T.length))) Fd DW) (S++sp::(T++[Bm nm]))
   =.nx (sr ns k many size lean turning fs S.length (some (.int i)) a11 a12 a13 a14 a15 a16 UW (some (.ref (S.length+1+T.length))) (some (.int one)) (some (.int gone))) (S++sp::(T++[Bm nm])):=
  bz _ _ (bJ (aa (v_var rfl) (aa (aW (aW (v_var rfl) aj (eZ _ _)) (v_var rfl) (by rw [eZ,ek])) (aa (dw (lL (aa aj (aa aj az)) (show 2≤1000000 by decide))) az))) hc) rfl
 have val:∃ v,Q5 size v∧ev (Mn (n+2)) (.ite (.cmp .Eq (.var 20) (.cst (.int 0))) (.bin .Sub (.cst (.int 0)) (.cst (.int 1))) (.bin .Mod (.bin .Add (.var 19) (.bin .Mult (.var 7) (.var 10))) (.bin .Add (.var 5) (.cst (.int 1))))) (sr ns k many size lean turning fs S.length (some (.int i)) a11 a12 a13 a14 a15 a16 UW (some (.ref (S.length+1+T.length))) (some (.int one)) (some (.int gone))) (S++sp::(T++[Bm nm]))=.ok (.int v) (S++sp::(T++[Bm nm])):=by
  by_cases c:gone=0
  ·exact ⟨-1,⟨by omega,by omega⟩,lW (aK (v_var rfl) aj (congrArg some (decide_eq_true c))) (aW aj aj (show binop .Sub (.int 0) (.int 1)=some (.int (-1)) from rfl))⟩
  ·exact ⟨_,RK (a:=one+(turning:Int)* (i:Int)),rM (aK (v_var rfl) aj (congrArg some (decide_eq_false c))) (aW (aW (v_var rfl) (aW (v_var rfl) (v_var rfl) (qL (by omega) (by omega))) (eZ _ _)) (aW (v_var rfl) aj (eZ _ _)) (jy (by omega)))⟩
 obtain ⟨v,hv,hev⟩:=val
 refine ⟨some (.int one),some (.int gone),v,hv,aq s1' (aq (rE hev (v_var rfl) (du (v_var rfl) (v_var rfl) (jT (by rw [List.getElem?_map,hz];rfl))) (jP (kk:=Sum.inr z) gB rfl (by have:=congrArg List.length hnm;rw [List.length_map,List.length_take] at this;rw [List.length_map];omega))) ?_)⟩
 rw [sB,acV (by rw [hnm];exact ux nd hz)]
 exact aM
theorem aiB (n:Nat) (ns:List Int) {k:Nat} {S:Hs} (hS:NR S):∃ nm it,Raw nm it∧it.length≤13∧(Mn (n+4)).cal "_law_raw" [zs ns,.int k,uo,.int 13] S=.ok (.val (rv (eO nm it) (jf nm it))) S:=by
 obtain ⟨ds,hd,hc⟩:=uv (n+1) ns (k:=k) (sizes:=[5,14,4,97]) (by decide) (by decide) hS
 obtain ⟨many,size,lean,turning,rfl,h1,h2,h3,h4⟩:=aaS hd
 obtain ⟨many,rfl⟩:∃ m:Nat,many=m:=⟨many.toNat,by omega⟩
 obtain ⟨size,rfl⟩:∃ m:Nat,size=m:=⟨size.toNat,by omega⟩
 obtain ⟨lean,rfl⟩:∃ m:Nat,lean=m:=⟨lean.toNat,by omega⟩
 obtain ⟨turning,rfl⟩:∃ m:Nat,turning=m:=⟨turning.toNat,by omega⟩
 obtain ⟨fs,hfs,hfl,hcn⟩:=abq n ns (k:=k+1) (many:=1+many) (by omega) hS
 have i6:size≤13:=by omega
 -- points
 have pts:∃ b10 b11 Ca Br BL Fq Eh Ie T it,NR T∧it.length=size∧(∀ p∈it,Item size p)∧forL (fun η1 S2=>exec (Mn (n+3)) CQ η1 S2) (.nm 10) [] (jg 0 size) (sr ns k many size lean turning fs S.length none none none none none none none none none none none) (S++ .dct ((dI 0).map Sum.inl) (aY [])::[])
   =.nx (sr ns k many size lean turning fs S.length b10 b11 Ca Br BL Fq Eh Ie none none none) (S++CK (aY it)::T):=by
  obtain ⟨η',S',g1,b10,b11,Ca,Br,BL,Fq,Eh,Ie,T,it,e1,e2,hT,hl,hit⟩:=ie (body:=fun η1 S2=>exec (Mn (n+3)) CQ η1 S2) (t:=.nm 10) (lk:=[]) (xs:=jg 0 size) (η:=sr ns k many size lean turning fs S.length none none none none none none none none none none none) (S:=S++ .dct ((dI 0).map Sum.inl) (aY [])::[])
   (fun i η S'=>∃ b10 b11 Ca Br BL Fq Eh Ie T it,η=sr ns k many size lean turning fs S.length b10 b11 Ca Br BL Fq Eh Ie none none none∧S'=S++ .dct ((dI i).map Sum.inl) (aY it)::T∧NR T∧it.length=i∧∀ p∈it,Item size p)
   ⟨none,none,none,none,none,none,none,none,[],[],rfl,rfl,NR.nil,rfl,fun p h=>by cases h⟩ (fun i η S' _=>aU _) fun i x η S' hx ⟨b10,b11,Ca,Br,BL,Fq,Eh,Ie,T,it,e1,e2,hT,hl,hit⟩=>by
    subst e1 e2
    obtain ⟨hi,rfl⟩:=rP hx
    obtain ⟨c11,c12,c13,c14,c15,c16,c17,T',p,hT',hp,he⟩:=abf (n+1) ns (k:=k) (many:=many) (size:=size) (lean:=lean) (turning:=turning) (fs:=fs) hi i6 hl hS hT b11 Ca Br BL Fq Eh Ie none none none
    refine ⟨_,rfl,_,_,.inl he,_,_,_,_,_,_,_,_,T',it++[p],rfl,rfl,hT',by simp [hl],fun q hq=> ?_⟩
    rcases List.mem_append.mp hq with hq | hq
    ·exact hit q hq
    ·rw [List.mem_singleton.mp hq];exact hp
  subst e1
  rw [iw] at e2 hl
  have es:CK (aY it)=.dct ((dI size).map Sum.inl) (aY it):=by unfold CK;rw [fV,hl]
  rw [← es] at e2
  subst e2
  exact ⟨b10,b11,Ca,Br,BL,Fq,Eh,Ie,T,it,hT,hl,hit,g1⟩
 obtain ⟨b10,b11,Ca,Br,BL,Fq,Eh,Ie,T,it,hT,Rp,hit,hpts⟩:=pts
 have ajZ:(CK (aY it)).nr=true:=by simp only [CK,Ob.nr,qQ]
 -- names
 have nms:∃ c10 b19 b20 nm,nm.map (·.1)=fs∧(∀ p∈nm,Q5 size p.2)∧forL (fun η1 S2=>exec (Mn (n+3)) Dc η1 S2) (.nm 10) [] (jg 0 fs.length) (sr ns k many size lean turning fs S.length b10 b11 Ca Br BL Fq Eh Ie (some (.ref (S.length+1+T.length))) none none) (S++CK (aY it)::(T++[Bm []]))
   =.nx (sr ns k many size lean turning fs S.length c10 b11 Ca Br BL Fq Eh Ie (some (.ref (S.length+1+T.length))) b19 b20) (S++CK (aY it)::(T++[Bm nm])):=by
  obtain ⟨η',S',g1,c10,b19,b20,nm,e1,e2,e3,e4⟩:=ie (body:=fun η1 S2=>exec (Mn (n+3)) Dc η1 S2) (t:=.nm 10) (lk:=[]) (xs:=jg 0 fs.length) (η:=sr ns k many size lean turning fs S.length b10 b11 Ca Br BL Fq Eh Ie (some (.ref (S.length+1+T.length))) none none) (S:=S++CK (aY it)::(T++[Bm []]))
   (fun i η S'=>∃ c10 b19 b20 nm,η=sr ns k many size lean turning fs S.length c10 b11 Ca Br BL Fq Eh Ie (some (.ref (S.length+1+T.length))) b19 b20∧S'=S++CK (aY it)::(T++[Bm nm])∧nm.map (·.1)=fs.take i∧∀ p∈nm,Q5 size p.2)
   ⟨b10,none,none,[],rfl,rfl,rfl,fun p h=>by cases h⟩ (fun i η S' _=>aU _) fun i x η S' hx ⟨c10,b19,b20,nm,e1,e2,e3,e4⟩=>by
    subst e1 e2
    obtain ⟨hi,rfl⟩:=rP hx
    have hz:fs[i]? =some fs[i]:=List.getElem?_eq_getElem hi
    obtain ⟨d19,d20,v,hv,he⟩:=raw_name (n+1) ns (k:=k) (many:=many) (size:=size) (lean:=lean) (turning:=turning) hz hfs.nd (by omega) i6 (by omega) e3 hS ajZ hT b11 Ca Br BL Fq Eh Ie b19 b20
    refine ⟨_,rfl,_,_,.inl he,_,_,_,nm++[(fs[i],v)],rfl,rfl,by rw [cO hz,List.map_append,e3];rfl,fun q hq=> ?_⟩
    rcases List.mem_append.mp hq with hq | hq
    ·exact e4 q hq
    ·rw [List.mem_singleton.mp hq];exact hv
  subst e1 e2
  rw [iw,List.take_length] at e3
  exact ⟨c10,b19,b20,nm,e3,e4,g1⟩
 obtain ⟨c10,b19,b20,nm,hnf,hnt,hnms⟩:=nms
 have nml:nm.length=1+many:=by rw [← hfl,← hnf,List.length_map]
 -- the first name on the first point
 have fst:∃ tZ,tZ.map (·.1)=fs∧(∀ p∈tZ,Q5 size p.2)∧aP (Mn (n+3)) (.ite (.band (.cmp .Gt (.var 5) (.cst (.int 0))) (.cmp .Lt (.var 6) (.cst (.int 3)))) (.cons (.uH (.var 18) (.idx (.var 8) (.cst (.int 0))) (.cst (.int 1))) .nil) .nil) (sr ns k many size lean turning fs S.length c10 b11 Ca Br BL Fq Eh Ie (some (.ref (S.length+1+T.length))) b19 b20) (S++CK (aY it)::(T++[Bm nm]))
   =.nx (sr ns k many size lean turning fs S.length c10 b11 Ca Br BL Fq Eh Ie (some (.ref (S.length+1+T.length))) b19 b20) (S++CK (aY it)::(T++[Bm tZ])):=by
  have hb:∃ b,(b=true→1≤size)∧ev (Mn (n+3)) (.band (.cmp .Gt (.var 5) (.cst (.int 0))) (.cmp .Lt (.var 6) (.cst (.int 3)))) (sr ns k many size lean turning fs S.length c10 b11 Ca Br BL Fq Eh Ie (some (.ref (S.length+1+T.length))) b19 b20) (S++CK (aY it)::(T++[Bm nm]))=.ok (.bl b) (S++CK (aY it)::(T++[Bm nm])):=by
   by_cases c:(0:Int)<(size:Int)
   ·exact ⟨decide ((lean:Int)<3),fun _=>by omega,pB (aK (v_var rfl) aj (congrArg some (decide_eq_true c))) (aK (v_var rfl) aj rfl)⟩
   ·exact ⟨false,fun h=>(by cases h),wG (aK (v_var rfl) aj (congrArg some (decide_eq_false c)))⟩
  obtain ⟨b,hb1,hb⟩:=hb
  cases b with
  | true=>
   have h1':=hb1 rfl
   have h0:0<fs.length:=by omega
   have hz:fs[0]? =some fs[0]:=List.getElem?_eq_getElem h0
   have hzm:fs[0]∈nm.map (·.1):=by rw [hnf];exact List.getElem_mem h0
   refine ⟨Np fs[0] 1 nm,by rw [abi];exact hnf,fun p hp=> ?_,cQ _ hb (aq (rE aj (v_var rfl) (du (v_var rfl) aj (jT (i:=0) (by rw [List.getElem?_map,hz];rfl))) (jP (kk:=Sum.inr fs[0]) gB rfl (by rw [List.length_map];omega))) ?_)⟩
   ·rcases aaj hp with e | e
    ·rw [e];exact ⟨by omega,by omega⟩
    ·exact hnt p e
   ·rw [sB,ahm hzm]
    exact aM
  | false=>exact ⟨nm,hnf,hnt,bD _ hb aM⟩
 obtain ⟨tZ,hnf',hnt',he⟩:=fst
 have an7:tZ.length=1+many:=by rw [← hfl,← hnf',List.length_map]
 have raw:Raw tZ it:=by
  refine ⟨⟨by rw [hnf'];exact hfs.nd,by omega,by omega,fun p hp t ht=>by rw [Rp];exact (hit p hp).t t ht,fun p hp=>by rw [Rp];exact hnt' p hp,fun p hp=>(hit p hp).l⟩,fun p hp=>hfs.w p.1 (by rw [← hnf'];exact List.mem_map.mpr ⟨p,hp,rfl⟩),fun p hp=>by rw [Rp];exact hit p hp⟩
 refine ⟨tZ,it,raw,by omega,?_⟩
 rw [aao]
 refine dh (T:=CK (aY it)::(T++[Bm tZ])) rfl ?_ hS (Z8 _ _)
 show exec (Mn (n+3)) Z4 [some (zs ns),some (.int k),some uo,some (.int 13),none,none,none,none,none,none,none,none,none,none,none,none,none,none,none,none,none] S=_
 have hN:NR (S++CK (aY it)::(T++[Bm tZ])):=nA hS ajZ (hT.one (by simp only [Bm,Ob.nr,zf]))
 have ek:((k:Int)+1)=((k+1:Nat):Int):=by omega
 have em:((1:Int)+(many:Int))=((1+many:Nat):Int):=by omega
 have hln:ir .len (S++CK (aY it)::(T++[Bm []])) (.lst (fs.map .str))=some (.int fs.length):=by rw [mK,List.length_map]
 have a5:=m9 (M:=Mn (n+3)) (η:=sr ns k many size lean turning fs S.length b10 b11 Ca Br BL Fq Eh Ie none none none) (S:=S++CK (aY it)::T) Ij
 rw [aA,lA] at a5
 have fin:=acF (n+1) raw.fit (S:=S++CK (aY it)::(T++[Bm tZ])) (r1:=S.length+1+T.length) (r2:=S.length) hN gB gA
 have z1:aP (Mn (n+3)) (.asg (.tp (.cons (.nm 4) (.cons (.nm 5) (.cons (.nm 6) (.cons (.nm 7) .nil))))) (.call "_law_digits" (.cons (.var 0) (.cons (.var 1) (.cons (.inl (.lst (.cons (.cst (.int 5)) (.cons (.bin .Add (.var 3) (.cst (.int 1))) (.cons (.cst (.int 4)) (.cons (.cst (.int 97)) .nil)))))) .nil))))) [some (zs ns),some (.int k),some uo,some (.int 13),none,none,none,none,none,none,none,none,none,none,none,none,none,none,none,none,none] S
   =.nx [some (zs ns),some (.int k),some uo,some (.int 13),some (.int many),some (.int size),some (.int lean),some (.int turning),none,none,none,none,none,none,none,none,none,none,none,none,none] S:=
  bz _ _ (bJ (aa (v_var rfl) (aa (v_var rfl) (aa (dw (lL (aa aj (aa (aW (v_var rfl) aj (show binop .Add (.int 13) (.int 1)=some (.int 14) from rfl)) (aa aj (aa aj az)))) (show 4≤1000000 by decide))) az))) hc) rfl
 have z2:aP (Mn (n+3)) (.asg (.nm 8) (.call "_law_names" (.cons (.var 0) (.cons (.bin .Add (.var 1) (.cst (.int 1))) (.cons (.bin .Add (.cst (.int 1)) (.var 4)) .nil))))) [some (zs ns),some (.int k),some uo,some (.int 13),some (.int many),some (.int size),some (.int lean),some (.int turning),none,none,none,none,none,none,none,none,none,none,none,none,none] S
   =.nx [some (zs ns),some (.int k),some uo,some (.int 13),some (.int many),some (.int size),some (.int lean),some (.int turning),some (.lst (fs.map .str)),none,none,none,none,none,none,none,none,none,none,none,none] S:=
  bz _ _ (bJ (aa (v_var rfl) (aa (aW (v_var rfl) aj (by rw [eZ,ek])) (aa (aW aj (v_var rfl) (by rw [eZ,em])) az))) hcn) rfl
 have z3:aP (Mn (n+3)) (.asg (.nm 9) (.CG (.xR [] .nil))) [some (zs ns),some (.int k),some uo,some (.int 13),some (.int many),some (.int size),some (.int lean),some (.int turning),some (.lst (fs.map .str)),none,none,none,none,none,none,none,none,none,none,none,none] S
   =.nx (sr ns k many size lean turning fs S.length none none none none none none none none none none none) (S++ .dct ((dI 0).map Sum.inl) (aY [])::[]):=bz _ _ (m9 Ij) rfl
 have z5:aP (Mn (n+3)) (.asg (.nm 18) (.CG (.xR [] .nil))) (sr ns k many size lean turning fs S.length b10 b11 Ca Br BL Fq Eh Ie none none none) (S++CK (aY it)::T)
   =.nx (sr ns k many size lean turning fs S.length b10 b11 Ca Br BL Fq Eh Ie (some (.ref (S.length+1+T.length))) none none) (S++CK (aY it)::(T++[Bm []])):=bz _ _ a5 rfl
 exact aq z1 (aq z2 (aq z3 (aq (jJ _ _ _ (mO (v_var rfl) (by omega)) hpts) (aq z5 (aq (jJ _ _ _ (mO (dG (v_var rfl) hln) (by omega)) hnms) (aq he (bA (dJ _ _ (bJ (r:=.val (rv (eO tZ it) (jf tZ it))) (aa (v_var rfl) (aa (v_var rfl) az)) fin)))))))))
end K04
namespace K04
open PySem L2 Oz
structure Can (ld:cY) (it:Its):Prop where
 raw:Raw ld it
 srt:bK ld=ld
 full:ord ld it=dI it.length
theorem Vu {o:List Int} {t:Int} (h: -1≤t) (k:0<t→t∈o): -1≤anew o t∧anew o t≤o.length:=by
 unfold anew
 split
 ·rename_i c
  have:=List.idxOf_lt_length_of_mem (k c)
  omega
 ·omega
theorem X5 (nm:cY) (f:Str × Int→Int):bK (nm.map fun p=>(p.1,f p))=(bK nm).map fun p=>(p.1,f p):=by
 unfold bK
 exact j6 (fun p:Str × Int=>p.1) (fun p=>(p.1,f p)) (fun p:Str × Int=>p.1) (fun _=>rfl) nm
theorem abm {nm:cY} (nd:(nm.map (·.1)).Nodup):bK (bK nm)=bK nm:=by
 unfold bK
 exact (uE (f:=fun p:Str × Int=>p.1) (xs:=sortBy (·.1) nm) (ys:=sortBy (·.1) nm) (Eb nd) (List.Perm.refl _) (z8 _ nm)).symm
theorem aas (nm:cY) (it:Its):(eO nm it).length=nm.length:=by unfold eO;rw [List.length_map,(bZ nm).length_eq]
theorem uB (nm:cY) (it:Its):(jf nm it).length=(ord nm it).length:=by unfold jf;rw [List.length_map]
theorem O8 {nm:cY} {it:Its} (nd:(nm.map (·.1)).Nodup):bK (eO nm it)=eO nm it:=by
 unfold eO
 rw [X5,abm nd]
theorem adS {nm:cY} {it:Its} (x:Int) (hx:x∈ord nm it) (h:Rx nm it):fH (jf nm it) (anew (ord nm it) x)=(fH it x).map (anew (ord nm it)):=by
 have hp:=(qD h x hx).1
 have hl:=List.idxOf_lt_length_of_mem hx
 have e:(anew (ord nm it) x - 1).toNat=(ord nm it).idxOf x:=by
  unfold anew
  rw [if_pos (by omega)]
  omega
 unfold fH
 rw [e]
 unfold jf
 rw [List.getElem?_map,List.getElem?_eq_getElem hl,List.getElem_idxOf hl]
 rfl
theorem Tc {nm:cY} {it:Its} (h:Raw nm it):Can (eO nm it) (jf nm it):=by
 have hf:=h.fit
 obtain ⟨c1,c2⟩:=Ml hf
 have pos:∀ x∈ord nm it,0<x:=fun x hx=>by have:=(qD hf x hx).1;omega
 have names:(eO nm it).map (·.1)=(bK nm).map (·.1):=by unfold eO;rw [List.map_map];rfl
 have Rb:∀ p∈jf nm it,∃ x∈ord nm it,∃ q∈it,fH it x=q.2∧p=(q.1,q.2.map (anew (ord nm it))):=fun p hp=>by
  obtain ⟨x,hx,rfl⟩:=List.mem_map.mp hp
  obtain ⟨q,hq,e1,e2⟩:=Fv (qD hf x hx)
  exact ⟨x,hx,q,List.mem_of_getElem? hq,e1,by rw [e1,e2]⟩
 have tgt:∀ p∈jf nm it,∀ t∈p.2,-1≤t∧t≤(jf nm it).length:=fun p hp t ht=>by
  obtain ⟨x,hx,q,hq,e1,rfl⟩:=Rb p hp
  obtain ⟨u,hu,rfl⟩:=List.mem_map.mp ht
  rw [uB]
  have hu':u∈fH it x:=by rw [e1];exact hu
  exact Vu (hf.hi q hq u hu).1 (c2 x hx u hu')
 have fit:Rx (eO nm it) (jf nm it):=by
  refine ⟨by rw [names];exact Eb hf.nd,by rw [aas];exact hf.n6,by rw [uB];exact Nat.le_trans (qI hf) hf.i6,tgt,fun p hp=> ?_,fun p hp=> ?_⟩
  ·obtain ⟨q,hq,rfl⟩:=List.mem_map.mp hp
   have hq':=(bZ nm).mem_iff.mp hq
   rw [uB]
   exact Vu (hf.ht q hq').1 (c1 q hq')
  ·obtain ⟨x,hx,q,hq,e1,rfl⟩:=Rb p hp
   rw [List.length_map];exact hf.h2 q hq
 refine ⟨⟨fit,fun p hp=> ?_,fun p hp=> ?_⟩,O8 hf.nd,?_⟩
 ·obtain ⟨q,hq,rfl⟩:=List.mem_map.mp hp
  exact h.hw q ((bZ nm).mem_iff.mp hq)
 ·refine ⟨?_,fit.h2 p hp,tgt p hp,(by
   obtain ⟨x,hx,q,hq,e1,rfl⟩:=Rb p hp
   exact (xq (by simp)).trans (h.hi q hq).k)⟩
  obtain ⟨x,hx,q,hq,e1,rfl⟩:=Rb p hp
  simp only [List.length_map]
  exact (h.hi q hq).w
 ·-- all is met,in order
  have ren:=ab8 pos
  have e0:push [] ((bK (eO nm it)).map (·.2))=(push [] ((bK nm).map (·.2))).map (anew (ord nm it)):=by
   rw [O8 hf.nd]
   have:(eO nm it).map (·.2)=((bK nm).map (·.2)).map (anew (ord nm it)):=by unfold eO;rw [List.map_map,List.map_map];rfl
   rw [this]
   exact yM ren (f:=[]) (fun x hx=>by cases hx) fun t ht h0=>by
    obtain ⟨p,hp,rfl⟩:=List.mem_map.mp ht
    exact c1 p ((bZ nm).mem_iff.mp hp) h0
  unfold ord
  rw [e0,MJ (nx:=fH it) ren c2 (fun x hx=>adS x hx hf) (fun x hx=>kE.subset hx),uB]
  have sh:vN (fH it) (ord nm it).length 0 (push [] ((bK nm).map (·.2)))=ord nm it:=by
   have hle:=qI hf
   have e:it.length=(ord nm it).length+(it.length - (ord nm it).length):=by omega
   have q:=Ka (nx:=fH it) (m:=(ord nm it).length) (k:=0) (d:=it.length - (ord nm it).length) (f:=push [] ((bK nm).map (·.2)))
   rw [← e] at q
   exact q (by show (ord nm it).length≤_;omega)
  rw [sh]
  exact abt HD pos
structure Turn (ld:cY) (it:Its) (g:Int→Int) (tZ:cY) (vI:Its):Prop where
 g0:g 0=0
 g1:g (-1)= -1
 ren:Ren (U3 it.length) g
 rng:∀ x,U3 it.length x→U3 it.length (g x)
 len:vI.length=it.length
 at_:∀ x,U3 it.length x→vI[(g x - 1).toNat]? =some (Ui it x,(fH it x).map g)
 sur:∀ y,U3 it.length y→∃ x,U3 it.length x∧g x=y
 nm:(ld.map fun p=>(p.1,g p.2)).Perm tZ
theorem aeS {ld tZ:cY} {it vI:Its} {g:Int→Int} (t:Turn ld it g tZ vI) {x:Int} (h: -1≤x) (k:x≤0):g x=x:=by
 have:x=0∨x= -1:=by omega
 rcases this with rfl | rfl
 ·exact t.g0
 ·exact t.g1
theorem acA {ld tZ:cY} {it vI:Its} {g:Int→Int} (h:Can ld it) (t:Turn ld it g tZ vI):Raw tZ vI∧(ord tZ vI).length=vI.length∧eO tZ vI=ld∧jf tZ vI=it:=by
 have hf:=h.raw.fit
 have ai3:∀ u:Int,-1≤u∧u≤it.length→-1≤g u∧g u≤vI.length:=fun u hu=>by
  rw [t.len]
  by_cases c:0<u
  ·have:=t.rng u ⟨by omega,hu.2⟩
   exact ⟨by have:=this.1;omega,this.2⟩
  ·rw [aeS t hu.1 (by omega)];omega
 have ajF:∀ p∈tZ,∃ q∈ld,p=(q.1,g q.2):=fun p hp=>by
  obtain ⟨q,hq,rfl⟩:=List.mem_map.mp (t.nm.mem_iff.mpr hp)
  exact ⟨q,hq,rfl⟩
 have keys:(ld.map fun p=>(p.1,g p.2)).map (·.1)=ld.map (·.1):=by rw [List.map_map];rfl
 have nd':(tZ.map (·.1)).Nodup:=((t.nm.map (·.1)).nodup_iff).mp (by rw [keys];exact hf.nd)
 have aaW:∀ p∈vI,∃ x,U3 it.length x∧∃ q∈it,fH it x=q.2∧p=(q.1,q.2.map g):=fun p hp=>by
  obtain ⟨i,hi⟩:=List.getElem?_of_mem hp
  have hl:=(List.getElem?_eq_some_iff.mp hi).1
  rw [t.len] at hl
  obtain ⟨x,hx,gx⟩:=t.sur ((i:Int)+1) ⟨by omega,by omega⟩
  have e:=t.at_ x hx
  rw [gx,show (((i:Int)+1) - 1).toNat=i by omega,hi] at e
  obtain ⟨q,hq,e1,e2⟩:=Fv hx
  rw [e1,e2] at e
  exact ⟨x,hx,q,List.mem_of_getElem? hq,e1,Option.some.inj e⟩
 have tgt:∀ p∈vI,∀ u∈p.2,-1≤u∧u≤vI.length:=fun p hp u hu=>by
  obtain ⟨x,hx,q,hq,e1,rfl⟩:=aaW p hp
  obtain ⟨v,hv,rfl⟩:=List.mem_map.mp hu
  exact ai3 v (hf.hi q hq v hv)
 have raw:Raw tZ vI:=by
  refine ⟨⟨nd',by rw [← t.nm.length_eq,List.length_map];exact hf.n6,by rw [t.len];exact hf.i6,tgt,fun p hp=> ?_,fun p hp=> ?_⟩,fun p hp=> ?_,fun p hp=> ?_⟩
  ·obtain ⟨q,hq,rfl⟩:=ajF p hp
   exact ai3 q.2 (hf.ht q hq)
  ·obtain ⟨x,hx,q,hq,e1,rfl⟩:=aaW p hp
   rw [List.length_map];exact hf.h2 q hq
  ·obtain ⟨q,hq,rfl⟩:=ajF p hp
   exact h.raw.hw q hq
  ·refine ⟨?_,(by
    obtain ⟨x,hx,q,hq,e1,rfl⟩:=aaW p hp
    rw [List.length_map];exact hf.h2 q hq),tgt p hp,(by
    obtain ⟨x,hx,q,hq,e1,rfl⟩:=aaW p hp
    exact (xq (by simp)).trans (h.raw.hi q hq).k)⟩
   obtain ⟨x,hx,q,hq,e1,rfl⟩:=aaW p hp
   simp only [List.length_map]
   exact (h.raw.hi q hq).w
 have srt:bK tZ=ld.map fun p=>(p.1,g p.2):=by
  refine (uE (f:=fun p:Str × Int=>p.1) nd' t.nm ?_).symm
  rw [List.pairwise_map]
  have:=z8 (fun p:Str × Int=>p.1) ld
  have e:sortBy (fun p:Str × Int=>p.1) ld=ld:=h.srt
  rw [e] at this
  exact this
 have aek:ord tZ vI=(dI it.length).map g:=by
  unfold ord
  rw [srt,t.len]
  have e1:(ld.map fun p=>(p.1,g p.2)).map (·.2)=(ld.map (·.2)).map g:=by rw [List.map_map,List.map_map];rfl
  have hp:∀ u∈ld.map (·.2),0<u→U3 it.length u:=fun u hu h0=>by
   obtain ⟨p,hp,rfl⟩:=List.mem_map.mp hu
   exact ⟨by omega,(hf.ht p hp).2⟩
  have e2:push [] ((ld.map (·.2)).map g)=(push [] (ld.map (·.2))).map g:=yM t.ren (f:=[]) (fun x hx=>by cases hx) hp
  have hc:∀ x,U3 it.length x→∀ u∈fH it x,0<u→U3 it.length u:=fun x _ u hu h0=>⟨by omega,(Rk hf x u hu).2⟩
  rw [e1,e2,MJ (nx:=fH it) (nx':=fH vI) t.ren hc (fun x hx=>by
   unfold fH
   rw [t.at_ x hx]
   rfl) (fun x hx=>by
   rcases nZ.mp hx with c | ⟨c,d⟩
   ·cases c
   ·exact hp x c d)]
  have e3:=h.full
  unfold ord at e3
  rw [h.srt] at e3
  rw [e3]
 have ae5:∀ u:Int,-1≤u∧u≤it.length→anew (ord tZ vI) (g u)=u:=fun u hu=>by
  rw [aek]
  by_cases c:0<u
  ·have hu':U3 it.length u:=⟨by omega,hu.2⟩
   unfold anew
   rw [if_pos (t.ren.pos u hu')]
   have nd2:((dI it.length).map g).Nodup:=by rw [← aek];exact HD
   have:((dI it.length).map g)[(u - 1).toNat]? =some (g u):=by
    rw [List.getElem?_map,CZ (by omega)]
    simp only [Option.map_some]
    congr 2
    omega
   rw [Nh nd2 this]
   omega
  ·rw [aeS t hu.1 (by omega)]
   unfold anew
   rw [if_neg c]
 refine ⟨raw,by rw [aek,List.length_map,oh,t.len],?_,?_⟩
 ·unfold eO
  rw [srt,List.map_map]
  have:ld.map ((fun p:Str × Int=>(p.1,anew (ord tZ vI) p.2)) ∘ fun p=>(p.1,g p.2))=ld.map id:=List.map_congr_left fun p hp=>by
   simp only [Function.comp,id]
   rw [ae5 p.2 (hf.ht p hp)]
  rw [this,List.map_id]
 ·unfold jf
  have:(ord tZ vI).map (fun x=>(Ui vI x,(fH vI x).map (anew (ord tZ vI))))=(dI it.length).map fun x=>(Ui it x,fH it x):=by
   rw [show (ord tZ vI).map (fun x=>(Ui vI x,(fH vI x).map (anew (ord tZ vI))))=((dI it.length).map g).map (fun x=>(Ui vI x,(fH vI x).map (anew (ord tZ vI)))) by rw [← aek],List.map_map]
   refine List.map_congr_left fun x hx=> ?_
   have Jg:=yK.mp hx
   have e:=t.at_ x Jg
   simp only [Function.comp]
   have e1:Ui vI (g x)=Ui it x:=by unfold Ui at*;rw [e]
   have e2:fH vI (g x)=(fH it x).map g:=by
    have e':=e
    unfold fH at *
    rw [e']
   rw [e1,e2,List.map_map]
   congr 1
   have:(fH it x).map (anew (ord tZ vI) ∘ g)=(fH it x).map id:=List.map_congr_left fun u hu=>by
    simp only [Function.comp,id]
    exact ae5 u (Rk hf x u hu)
   rw [this,List.map_id]
  rw [this]
  apply List.ext_getElem?
  intro i
  rw [List.getElem?_map]
  by_cases c:i<it.length
  ·rw [CZ c,List.getElem?_eq_getElem c]
   simp only [Option.map_some]
   unfold Ui fH
   rw [show (((i:Int)+1) - 1).toNat=i by omega,List.getElem?_eq_getElem c]
  ·rw [List.getElem?_eq_none (by rw [oh];omega),List.getElem?_eq_none (by omega)];rfl
theorem aee {ld:cY} {it:Its} (h:Can ld it):Turn ld it id ld it:=by
 refine ⟨rfl,rfl,⟨fun a b _ _ e=>e,fun a ha=>by have:=ha.1;show 0<a;omega,fun a ha=>ha⟩,fun x hx=>hx,rfl,fun x hx=> ?_,fun y hy=>⟨y,hy,rfl⟩,?_⟩
 ·obtain ⟨p,hp,e1,e2⟩:=Fv hx
  rw [List.map_id,e1,e2]
  exact hp
 ·have:(ld.map fun p=>(p.1,id p.2))=ld:=by
   have:(ld.map fun p=>(p.1,id p.2))=ld.map id:=List.map_congr_left fun p _=>rfl
   rw [this,List.map_id]
  rw [this]
end K04
section OzTac
open PySem L2 Oz
local macro_rules | `(tactic| tm_at "ozG")=>`(tactic| first | exact List.getElem?_concat_length | fail)
local macro_rules | `(tactic| tm_at "ozG")=>`(tactic| first | ((with_reducible apply g_p);tm_at "ozG") | fail)
local macro_rules | `(tactic| tm_at "ozG")=>`(tactic| first | ((with_reducible apply g_k);exact rfl) | fail)
local macro_rules | `(tactic| tm_at "ozG")=>`(tactic| first | with_reducible exact g_z | fail)
local macro_rules | `(tactic| tm_at "ozG")=>`(tactic| first | with_reducible assumption | fail)
local macro_rules | `(tactic| tm_at "ozSet")=>`(tactic| first | (apply QM.s;(focus (tm_at "ozSet"))) | fail)
local macro_rules | `(tactic| tm_at "ozSet")=>`(tactic| first | exact QM.z _ _ _ | fail)
local macro_rules | `(tactic| tm_at "ozN")=>`(tactic| first | (refine nr_h ?_ ?_;(focus (tm_at "ozN"));simp only [List.all_cons,List.all_nil,Ob.nr,dH,Vl.nr,Xn,dW,lH,Bool.and_self,Bool.and_true,Bool.true_and, *]) | fail)
local macro_rules | `(tactic| tm_at "ozN")=>`(tactic| first | assumption | fail)
local macro_rules | `(tactic| tm_at "ozC")=>`(tactic| (refine pid ?_;with_reducible assumption))
local macro_rules | `(tactic| tm_at "ozB")=>`(tactic| first | decide | fail)
local macro_rules | `(tactic| tm_at "ozB")=>`(tactic| first | (simp only [*,Bool.and_self,Bool.or_self,Bool.not_true,Bool.not_false,Bool.and_true,Bool.true_and,Bool.or_true,Bool.true_or,Bool.or_false,Bool.false_or,Bool.and_false,Bool.false_and,decide_true,decide_false];done) | fail)
local macro_rules | `(tactic| tm_at "ozB")=>`(tactic| first | (simp only [decide_eq_true_eq,decide_eq_false_iff_not,Bool.and_eq_true,Bool.or_eq_true,Bool.not_eq_true',Bool.or_eq_false_iff,Bool.and_eq_false_iff,Bool.not_eq_false'] at*;omega) | fail)
local macro_rules | `(tactic| tm_at "ozB")=>`(tactic| first | exact rfl | fail)
local macro_rules | `(tactic| tm_at "ozB")=>`(tactic| first | assumption | fail)
local macro_rules | `(tactic| tm_at "ozB")=>`(tactic| first | with_reducible rfl | fail)
local macro_rules | `(tactic| tm_at "ozOA")=>`(tactic| first | exact rfl | fail)
local macro_rules | `(tactic| tm_at "ozOA")=>`(tactic| first | with_reducible exact El | fail)
local macro_rules | `(tactic| tm_at "ozOA")=>`(tactic| first | ((with_reducible apply kh);first | (simp only [List.length_map,List.length_nil,List.length_cons,List.length_append];omega) | omega) | fail)
local macro_rules | `(tactic| tm_at "ozOA")=>`(tactic| first | ((with_reducible apply q_ixRM);(focus (tm_at "ozG"));assumption) | fail)
local macro_rules | `(tactic| tm_at "ozOA")=>`(tactic| first | ((with_reducible apply q_ixTM);assumption) | fail)
local macro_rules | `(tactic| tm_at "ozOA")=>`(tactic| first | ((with_reducible apply q_ixM);assumption) | fail)
local macro_rules | `(tactic| tm_at "ozOA")=>`(tactic| first | ((with_reducible apply ajH);(focus (tm_at "ozO"));exact rfl) | fail)
local macro_rules | `(tactic| tm_at "ozOA")=>`(tactic| first | ((with_reducible apply q_walk);tm_at "ozG") | fail)
local macro_rules | `(tactic| tm_at "ozOA")=>`(tactic| first | ((with_reducible apply q_ins);tm_at "ozG") | fail)
local macro_rules | `(tactic| tm_at "ozOA")=>`(tactic| first | ((with_reducible apply q_dct);tm_at "ozG") | fail)
local macro_rules | `(tactic| tm_at "ozOA")=>`(tactic| first | ((with_reducible apply q_lstOf);tm_at "ozG") | fail)
local macro_rules | `(tactic| tm_at "ozOA")=>`(tactic| first | ((with_reducible apply q_lst);tm_at "ozG") | fail)
local macro_rules | `(tactic| tm_at "ozOA")=>`(tactic| first | ((with_reducible apply q_lenD);tm_at "ozG") | fail)
local macro_rules | `(tactic| tm_at "ozOA")=>`(tactic| first | ((with_reducible apply q_lenR);tm_at "ozG") | fail)
local macro_rules | `(tactic| tm_at "ozOA")=>`(tactic| first | ((with_reducible apply q_lenS);omega) | fail)
local macro_rules | `(tactic| tm_at "ozOA")=>`(tactic| first | with_reducible exact Vk _ _ | fail)
local macro_rules | `(tactic| tm_at "ozOA")=>`(tactic| first | with_reducible exact mK _ _ | fail)
local macro_rules | `(tactic| tm_at "ozOA")=>`(tactic| first | ((with_reducible apply eU);first | decide+kernel | omega) | fail)
local macro_rules | `(tactic| tm_at "ozOA")=>`(tactic| first | ((with_reducible apply GP)<;>omega) | fail)
local macro_rules | `(tactic| tm_at "ozOA")=>`(tactic| first | ((with_reducible apply qL)<;>omega) | fail)
local macro_rules | `(tactic| tm_at "ozOA")=>`(tactic| first | ((with_reducible apply Uc)<;>omega) | fail)
local macro_rules | `(tactic| tm_at "ozOA")=>`(tactic| first | ((with_reducible apply jy);omega) | fail)
local macro_rules | `(tactic| tm_at "ozOA")=>`(tactic| first | with_reducible exact Ra _ _ | fail)
local macro_rules | `(tactic| tm_at "ozOA")=>`(tactic| first | with_reducible exact eZ _ _ | fail)
local macro_rules | `(tactic| tm_at "ozOA")=>`(tactic| first | with_reducible assumption | fail)
local macro_rules | `(tactic| tm_at "ozO")=>`(tactic| (refine pid ?_;first | tm_at "ozOA" | fail))
local macro_rules | `(tactic| tm_at "ozE")=>`(tactic| first | tm_at "ozC" | fail)
local macro_rules | `(tactic| tm_at "ozE")=>`(tactic| first | tm_at "ozO" | fail)
local macro_rules | `(tactic| tm_at "ozE")=>`(tactic| first | with_reducible apply ev_zip | fail)
local macro_rules | `(tactic| tm_at "ozE")=>`(tactic| first | with_reducible apply yo | fail)
local macro_rules | `(tactic| tm_at "ozE")=>`(tactic| first | with_reducible apply Hq | fail)
local macro_rules | `(tactic| tm_at "ozE")=>`(tactic| first | with_reducible apply iG | fail)
local macro_rules | `(tactic| tm_at "ozE")=>`(tactic| first | with_reducible apply afs | fail)
local macro_rules | `(tactic| tm_at "ozE")=>`(tactic| first | ((with_reducible apply v_olen);(focus (tm_at "ozV"));(focus (tm_at "ozO"));(focus (tm_at "ozC"));omega) | fail)
local macro_rules | `(tactic| tm_at "ozE")=>`(tactic| first | with_reducible apply v_xf | fail)
local macro_rules | `(tactic| tm_at "ozE")=>`(tactic| first | with_reducible apply aeN | fail)
local macro_rules | `(tactic| tm_at "ozE")=>`(tactic| first | with_reducible apply ajE | fail)
local macro_rules | `(tactic| tm_at "ozE")=>`(tactic| first | with_reducible apply ae3 | fail)
local macro_rules | `(tactic| tm_at "ozE")=>`(tactic| first | with_reducible apply u_fs | fail)
local macro_rules | `(tactic| tm_at "ozE")=>`(tactic| first | with_reducible apply xN | fail)
local macro_rules | `(tactic| tm_at "ozE")=>`(tactic| first | with_reducible apply v_mx | fail)
local macro_rules | `(tactic| tm_at "ozE")=>`(tactic| first | with_reducible apply ajg | fail)
local macro_rules | `(tactic| tm_at "ozE")=>`(tactic| first | ((with_reducible apply u_iteB);(focus (tm_at "ozV"));(focus (intro _;tm_at "ozV"));(focus (intro _;tm_at "ozV"))) | fail)
local macro_rules | `(tactic| tm_at "ozE")=>`(tactic| first | ((with_reducible apply u_iteS);(focus (tm_at "ozV"));(focus (intro _;tm_at "ozV"));(focus (intro _;tm_at "ozV"))) | fail)
local macro_rules | `(tactic| tm_at "ozE")=>`(tactic| first | ((with_reducible apply u_iteI);(focus (tm_at "ozV"));(focus (intro _;tm_at "ozV"));(focus (intro _;tm_at "ozV"))) | fail)
local macro_rules | `(tactic| tm_at "ozE")=>`(tactic| first | ((with_reducible apply u_ite0);(focus (tm_at "ozV"));(focus (tm_at "ozB"))) | fail)
local macro_rules | `(tactic| tm_at "ozE")=>`(tactic| first | ((with_reducible apply aag);(focus (tm_at "ozV"));(focus (tm_at "ozB"))) | fail)
local macro_rules | `(tactic| tm_at "ozE")=>`(tactic| first | with_reducible apply u_lset | fail)
local macro_rules | `(tactic| tm_at "ozE")=>`(tactic| first | with_reducible apply u_tidx | fail)
local macro_rules | `(tactic| tm_at "ozE")=>`(tactic| first | ((with_reducible apply u_dgt);(focus (tm_at "ozV"));(focus (tm_at "ozV"));(focus (tm_at "ozV"));(focus (tm_at "ozO"));exact rfl;(focus (tm_at "ozO"))) | fail)
local macro_rules | `(tactic| tm_at "ozE")=>`(tactic| first | ((with_reducible apply u_kget);(focus (tm_at "ozV"));(focus (tm_at "ozD"));(focus (tm_at "ozO"))) | fail)
local macro_rules | `(tactic| tm_at "ozE")=>`(tactic| first | ((with_reducible apply u_kin);(focus (tm_at "ozV"));(focus (tm_at "ozD"));(focus (tm_at "ozO"))) | fail)
local macro_rules | `(tactic| tm_at "ozE")=>`(tactic| first | ((with_reducible apply u_mut);(focus (tm_at "ozV"));(focus (tm_at "ozV"));(focus (tm_at "ozG"));(focus (tm_at "ozG"));(focus (tm_at "ozO"));(with_reducible apply s_k);(focus (tm_at "ozSet"))) | fail)
local macro_rules | `(tactic| tm_at "ozE")=>`(tactic| first | ((with_reducible apply aho);(focus (tm_at "ozV"));(focus (tm_at "ozO"));(focus (tm_at "ozV"));(focus (tm_at "ozC"));exact rfl) | fail)
local macro_rules | `(tactic| tm_at "ozE")=>`(tactic| first | ((with_reducible apply u_mcl);(focus (tm_at "ozV"));(focus (tm_at "ozO"));(focus (tm_at "ozV"));(focus (tm_at "ozC"))) | fail)
local macro_rules | `(tactic| tm_at "ozE")=>`(tactic| first | ((with_reducible apply f_mcl);(focus (tm_at "ozV"));(focus (tm_at "ozO"));(focus (tm_at "ozV"));(focus (tm_at "ozC"))) | fail)
local macro_rules | `(tactic| tm_at "ozE")=>`(tactic| first | ((with_reducible apply f_call);(focus (tm_at "ozV"));(focus (tm_at "ozC"))) | fail)
local macro_rules | `(tactic| tm_at "ozE")=>`(tactic| first | ((with_reducible apply yC);(focus (tm_at "ozV"));(focus (tm_at "ozV"));decide+kernel;decide+kernel) | fail)
local macro_rules | `(tactic| tm_at "ozE")=>`(tactic| first | ((with_reducible apply aba);(focus (tm_at "ozV"));exact rfl;(focus (tm_at "ozV"));(focus (tm_at "ozO"))) | fail)
local macro_rules | `(tactic| tm_at "ozE")=>`(tactic| first | ((with_reducible apply aaT);(focus (tm_at "ozV"));exact rfl;(focus (tm_at "ozV"));(focus (tm_at "ozO"))) | fail)
local macro_rules | `(tactic| tm_at "ozE")=>`(tactic| first | with_reducible apply aig | fail)
local macro_rules | `(tactic| tm_at "ozE")=>`(tactic| first | ((with_reducible apply KC);(focus (tm_at "ozV"));(focus (tm_at "ozV"));(focus (tm_at "ozO"));(focus (tm_at "ozO"));(first | (exact Nat.le_of_ble_eq_true rfl) | (simp only [List.length_map,List.length_nil,List.length_cons,List.length_append];omega));(first | (simp only [List.cons_append,List.nil_append];exact rfl) | exact rfl)) | fail)
local macro_rules | `(tactic| tm_at "ozE")=>`(tactic| first | with_reducible apply f_dctp | fail)
local macro_rules | `(tactic| tm_at "ozE")=>`(tactic| first | with_reducible exact Ij | fail)
local macro_rules | `(tactic| tm_at "ozE")=>`(tactic| first | with_reducible apply R4 | fail)
local macro_rules | `(tactic| tm_at "ozE")=>`(tactic| first | with_reducible apply TX | fail)
local macro_rules | `(tactic| tm_at "ozE")=>`(tactic| first | with_reducible apply f_srt | fail)
local macro_rules | `(tactic| tm_at "ozE")=>`(tactic| first | with_reducible apply ae0 | fail)
local macro_rules | `(tactic| tm_at "ozE")=>`(tactic| first | with_reducible apply ajl | fail)
local macro_rules | `(tactic| tm_at "ozE")=>`(tactic| first | ((with_reducible apply rH);(focus (tm_at "ozV"));exact rfl) | fail)
local macro_rules | `(tactic| tm_at "ozE")=>`(tactic| first | ((with_reducible apply u_inlO);(focus (tm_at "ozV"))) | fail)
local macro_rules | `(tactic| tm_at "ozE")=>`(tactic| first | ((with_reducible apply u_inlD);(focus (tm_at "ozV"))) | fail)
local macro_rules | `(tactic| tm_at "ozE")=>`(tactic| first | ((with_reducible apply jr);(focus (tm_at "ozV"))) | fail)
local macro_rules | `(tactic| tm_at "ozE")=>`(tactic| first | ((with_reducible apply u_alc);(focus (tm_at "ozV"));(focus (first | (simp only [List.length_nil,List.length_cons,Nat.zero_add,Nat.reduceAdd];exact rfl) | exact rfl));(focus (first | (simp only [List.nil_append,List.cons_append];exact rfl) | exact rfl))) | fail)
local macro_rules | `(tactic| tm_at "ozE")=>`(tactic| first | with_reducible apply BK | fail)
local macro_rules | `(tactic| tm_at "ozE")=>`(tactic| first | with_reducible apply qH | fail)
local macro_rules | `(tactic| tm_at "ozE")=>`(tactic| first | with_reducible exact qK | fail)
local macro_rules | `(tactic| tm_at "ozE")=>`(tactic| first | with_reducible apply VJ | fail)
local macro_rules | `(tactic| tm_at "ozE")=>`(tactic| first | with_reducible apply u_tru | fail)
local macro_rules | `(tactic| tm_at "ozE")=>`(tactic| first | with_reducible apply DK | fail)
local macro_rules | `(tactic| tm_at "ozE")=>`(tactic| first | ((with_reducible apply u_or);(focus (tm_at "ozV"));intro _;(focus (tm_at "ozV"))) | fail)
local macro_rules | `(tactic| tm_at "ozE")=>`(tactic| first | ((with_reducible apply u_and);(focus (tm_at "ozV"));intro _;(focus (tm_at "ozV"))) | fail)
local macro_rules | `(tactic| tm_at "ozE")=>`(tactic| first | with_reducible apply aeT | fail)
local macro_rules | `(tactic| tm_at "ozE")=>`(tactic| first | with_reducible apply jR | fail)
local macro_rules | `(tactic| tm_at "ozE")=>`(tactic| first | ((with_reducible apply u_callF);(focus (tm_at "ozV"));(focus (tm_at "ozC"));exact rfl) | fail)
local macro_rules | `(tactic| tm_at "ozE")=>`(tactic| first | ((with_reducible apply u_callFD);(focus (tm_at "ozV"));(focus (tm_at "ozC"))) | fail)
local macro_rules | `(tactic| tm_at "ozE")=>`(tactic| first | ((with_reducible apply u_callFL);(focus (tm_at "ozV"));(focus (tm_at "ozC"))) | fail)
local macro_rules | `(tactic| tm_at "ozE")=>`(tactic| first | ((with_reducible apply u_call);(focus (tm_at "ozV"));(focus (tm_at "ozC"))) | fail)
local macro_rules | `(tactic| tm_at "ozE")=>`(tactic| first | with_reducible apply dG | fail)
local macro_rules | `(tactic| tm_at "ozE")=>`(tactic| first | ((with_reducible apply ajq);(focus (repeat' (tm_at "ozE")));exact rfl) | fail)
local macro_rules | `(tactic| tm_at "ozE")=>`(tactic| first | with_reducible apply du | fail)
local macro_rules | `(tactic| tm_at "ozE")=>`(tactic| first | with_reducible apply aK | fail)
local macro_rules | `(tactic| tm_at "ozE")=>`(tactic| first | with_reducible apply aW | fail)
local macro_rules | `(tactic| tm_at "ozE")=>`(tactic| first | with_reducible apply aa | fail)
local macro_rules | `(tactic| tm_at "ozE")=>`(tactic| first | with_reducible exact az | fail)
local macro_rules | `(tactic| tm_at "ozE")=>`(tactic| first | ((with_reducible apply v_var);exact rfl) | fail)
local macro_rules | `(tactic| tm_at "ozE")=>`(tactic| first | with_reducible exact aj | fail)
local macro_rules | `(tactic| tm_at "ozV")=>`(tactic| ((repeat' (tm_at "ozE"));done))
local macro_rules | `(tactic| tm_at "ozS")=>`(tactic| first | ((with_reducible apply w_raise);(focus (tm_at "ozV"));(focus (tm_at "ozX"))) | fail)
local macro_rules | `(tactic| tm_at "ozS")=>`(tactic| first | ((with_reducible apply abH);(focus (tm_at "ozV"));(focus (tm_at "ozB"))) | fail)
local macro_rules | `(tactic| tm_at "ozS")=>`(tactic| first | ((with_reducible apply w_ite1);(focus (tm_at "ozV"));(focus (tm_at "ozB"))) | fail)
local macro_rules | `(tactic| tm_at "ozS")=>`(tactic| first | ((with_reducible apply w_star);(focus (tm_at "ozV"));(focus (tm_at "ozO"));(focus (first | (simp only [ab2,List.set];exact rfl) | exact rfl));(focus (tm_at "ozSet"))) | fail)
local macro_rules | `(tactic| tm_at "ozS")=>`(tactic| first | ((with_reducible apply w_aug);exact rfl;(focus (tm_at "ozV"));(focus (tm_at "ozSet"))) | fail)
local macro_rules | `(tactic| tm_at "ozS")=>`(tactic| first | ((with_reducible apply w_par);(focus (tm_at "ozV"));(focus (tm_at "ozV"));(focus (tm_at "ozSet"));(focus (tm_at "ozSet"))) | fail)
local macro_rules | `(tactic| tm_at "ozS")=>`(tactic| first | with_reducible apply afm | fail)
local macro_rules | `(tactic| tm_at "ozS")=>`(tactic| first | with_reducible apply aaQ | fail)
local macro_rules | `(tactic| tm_at "ozS")=>`(tactic| first | ((with_reducible apply w_fcons);(focus (tm_at "ozSet"))) | fail)
local macro_rules | `(tactic| tm_at "ozS")=>`(tactic| first | with_reducible apply w_fnil | fail)
local macro_rules | `(tactic| tm_at "ozS")=>`(tactic| first | with_reducible apply w_fnilK | fail)
local macro_rules | `(tactic| tm_at "ozS")=>`(tactic| first | with_reducible apply w_nilL | fail)
local macro_rules | `(tactic| tm_at "ozS")=>`(tactic| first | ((with_reducible apply w_ex);(focus (tm_at "ozV"))) | fail)
local macro_rules | `(tactic| tm_at "ozS")=>`(tactic| first | with_reducible apply w_cnt | fail)
local macro_rules | `(tactic| tm_at "ozS")=>`(tactic| first | with_reducible apply w_brk | fail)
local macro_rules | `(tactic| tm_at "ozS")=>`(tactic| first | with_reducible apply w_pass | fail)
local macro_rules | `(tactic| tm_at "ozS")=>`(tactic| first | with_reducible apply w_retn | fail)
local macro_rules | `(tactic| tm_at "ozS")=>`(tactic| first | ((with_reducible apply ags);(focus (tm_at "ozV"))) | fail)
local macro_rules | `(tactic| tm_at "ozS")=>`(tactic| first | ((with_reducible apply afr);(focus (tm_at "ozV"))) | fail)
local macro_rules | `(tactic| tm_at "ozS")=>`(tactic| first | ((with_reducible apply w_asgT);(focus (tm_at "ozV"));exact rfl;dsimp only [List.set]) | fail)
local macro_rules | `(tactic| tm_at "ozS")=>`(tactic| first | ((with_reducible apply rY);(focus (tm_at "ozV"));(focus (tm_at "ozSet"))) | fail)
local macro_rules | `(tactic| tm_at "ozR")=>`(tactic| repeat (tm_at "ozS"))
local macro_rules | `(tactic| tm_at "ozF")=>`(tactic| (simp only [ab1,ado,efO,Vl.ef,Zh,Bool.and_self,Bool.and_true,Bool.true_and, *]))
namespace K04
open PySem L2 Oz
theorem sbT {m:Nat} {d c:Str} {w:Bool} (h:X8 d c=some w):(Mn m).sub d c=some w:=by rw [tX];exact h
def wdA:Str:=(("BadName BadWeb Full BadText BadPoints BadRule Groundless BadItem BadRow ":Str)++("BadLoftName BadPage Shut NoName NoShape NoRow NoProgram NoNumber Taken Nothing":Str))
theorem ahq {i:Nat} {z:Str} (h:(Txt.split wdA (" ":Str))[i]? =some z) (H:Hs):dM H (.lst ((Txt.split (("BadName BadWeb Full BadText BadPoints BadRule Groundless BadItem BadRow ":Str)++("BadLoftName BadPage Shut NoName NoShape NoRow NoProgram NoNumber Taken Nothing":Str)) (" ":Str)).map .str)) (.int i)=some (.str z):=jT (by rw [List.getElem?_map];exact congrArg (Option.map Vl.str) h)
def kcs:List Str:=["BadName","BadWeb","Full","BadText","BadPoints","BadRule","Groundless","BadItem","BadRow","BadLoftName","BadPage","Shut","NoName","NoShape","NoRow","NoProgram","NoNumber","Taken","Nothing"]
def ocs:List Str:=["OsierError","Missing","ValueError","LookupError","KeyError","IndexError"]
def kb (d c:Str):Bool:=(X8 d c).getD false
def afL:List Str→Es
 | []=>.nil
 | c::cs=>.cons (.xP c (.var 0)) (afL cs)
theorem W3 {m:Nat} {d:Str} {ns:List Str} {vs:List Vl} {η:Sg} (h0:η[0]? =some (some (.err d ns vs))) (S:Hs):∀ cs:List Str,(∀ c∈cs,X8 d c=some (kb d c))→evs (Mn m) (afL cs) η S=.ok (cs.map fun c=>Vl.bl (kb d c)) S
 | [],_=>az
 | c::cs,h=>aa (aeN (v_var h0) (sbT (h c List.mem_cons_self))) (W3 h0 S cs fun x hx=>h x (List.mem_cons_of_mem _ hx))
def ilL (i:Nat):List Vl:=[.bl (decide ((i:Int)<12)),.bl (decide ((11:Int)<i)&&decide ((i:Int)<17)),.bl (decide ((i:Int)<12)),.bl (decide ((i:Int)>11)),.bl (decide ((i:Int)=17)),.bl (decide ((i:Int)=18))]
theorem ajv {S:Hs} {a b:Int}:cmpop .Eq S (.int a) (.int b)=some (decide (a=b)):=by simp [cmpop,zq,YX]
theorem agS (m:Nat) {d z:Str} {ns:List Str} {vs:List Vl} {i:Nat} (hs:(kcs++ocs).all (fun c=>(X8 d c).isSome)=true) (hc:∀ S,QR S (.lst (kcs.map fun c=>Vl.bl (kb d c))) (.bl true)=some (.int 1)) (hi:∀ S,yU S (.lst (kcs.map fun c=>Vl.bl (kb d c))) (.bl true)=some (.int (i:Nat))) (ho:∀ S,cmpop .Eq S (.lst (ocs.map fun c=>Vl.bl (kb d c))) (.lst (ilL i))=some true) (hz:(Txt.split wdA (" ":Str))[i]? =some z) {S:Hs} (hS:NR S):(Mn (m+1)).cal "_law_kin" [.err d ns vs] S=.ok (.val (.str z)) S:=by
 have hb:∀ c∈kcs++ocs,X8 d c=some (kb d c):=fun c hc=>by
  have:=List.all_eq_true.mp hs c hc
  unfold kb
  obtain ⟨b,e⟩:=Option.isSome_iff_exists.mp this
  rw [e];rfl
 have x:∀ (cs:List Str) (η:Sg) (S:Hs),η[0]? =some (some (.err d ns vs))→(∀ c∈cs,c∈kcs++ocs)→evs (Mn m) (afL cs) η S=.ok (cs.map fun c=>Vl.bl (kb d c)) S:=fun cs η S h0 h=>W3 h0 S cs fun c hc=>hb c (h c hc)
 have hx:=ahq hz (S++[])
 rw [abX]
 refine abQ rfl hS rfl ?_
 show Ends (exec (Mn m) aaM [some (.err d ns vs),none,none,none,none,none] (S++[])) _
 generalize hk1:(fun c=>Vl.bl (kb d c))=f at x hc hi ho
 have ln:∀ cs:List Str,(cs.map f).length=cs.length:=fun cs=>List.length_map _
 refine rY (jr (rH (x ["BadName","BadWeb","Full","BadText"] _ _ rfl (by decide+kernel)) rfl)) (by tm_at "ozSet") ?_
 refine rY (jr (KC (v_var rfl) (jr (rH (x ["BadPoints","BadRule","Groundless"] _ _ rfl (by decide+kernel)) rfl)) rfl rfl (Nat.le_of_ble_eq_true rfl) rfl)) (by tm_at "ozSet") ?_
 refine rY (jr (KC (v_var rfl) (jr (rH (x ["BadItem","BadRow","BadLoftName","BadPage"] _ _ rfl (by decide+kernel)) rfl)) rfl rfl (Nat.le_of_ble_eq_true rfl) rfl)) (by tm_at "ozSet") ?_
 refine rY (jr (KC (v_var rfl) (jr (rH (x ["Shut","NoName","NoShape","NoRow"] _ _ rfl (by decide+kernel)) rfl)) rfl rfl (Nat.le_of_ble_eq_true rfl) rfl)) (by tm_at "ozSet") ?_
 refine rY (jr (KC (v_var rfl) (jr (rH (x ["NoProgram","NoNumber","Taken","Nothing"] _ _ rfl (by decide+kernel)) rfl)) rfl rfl (Nat.le_of_ble_eq_true rfl) (zs:=kcs.map f) rfl)) (by tm_at "ozSet") ?_
 refine rY aj (by tm_at "ozSet") ?_
 refine rY (aW (v_var rfl) aj (eU (by decide+kernel))) (by tm_at "ozSet") ?_
 refine abH (aK (aaT (v_var rfl) rfl aj (hc _)) aj rfl) rfl (aaQ ?_)
 refine rY (aba (v_var rfl) rfl aj (hi _)) (by tm_at "ozSet") ?_
 refine rY (jr (rH (x ["OsierError","Missing","ValueError"] _ _ rfl (by decide+kernel)) rfl)) (by tm_at "ozSet") ?_
 refine rY (jr (KC (v_var rfl) (jr (rH (x ["LookupError","KeyError","IndexError"] _ _ rfl (by decide+kernel)) rfl)) rfl rfl (Nat.le_of_ble_eq_true rfl) (zs:=ocs.map f) rfl)) (by tm_at "ozSet") ?_
 refine rY (x:=.lst (ilL i)) (jr (rH (aa (aK (v_var rfl) aj rfl) (aa (aeT (d1:=decide ((11:Int)<i)) (d2:=decide ((i:Int)<17)) aj (v_var rfl) rfl aj rfl) (aa (aK (v_var rfl) aj rfl) (aa (aK (v_var rfl) aj rfl) (aa (aK (v_var rfl) aj ajv) (aa (aK (v_var rfl) aj ajv) az)))))) rfl)) (by tm_at "ozSet") ?_
 exact afr (aag (aK (v_var rfl) (v_var rfl) (ho _)) rfl (du (jr (yC (v_var rfl) aj (by decide+kernel) (by decide+kernel))) (v_var rfl) hx)) ⟨_,[],rfl,rfl,rfl⟩
theorem aip (m:Nat) {ns:List Str} {vs:List Vl} {S:Hs} (hS:NR S):(Mn (m+1)).cal "_law_kin" [.err "BadText" ns vs] S=.ok (.val (.str "BadText")) S:=agS m (i:=3) (by decide+kernel) (fun _=>rfl) (fun _=>rfl) (fun _=>rfl) (by decide+kernel) hS
def vL (ld:cY) (it:Its):Vl:=(O9 ld it).inl
theorem Mp (ld:cY) (it:Its):(vL ld it).nr=true:=by simp only [vL,O9,Ob.inl,Vl.nr,dH,zf,qQ,Bool.and_self]
theorem jm (S:Hs) (ld:cY) (it:Its):lJ S (vL ld it)=some (("Web":Str),(["leads","spots"]:List Str),[Vl.dct (ld.map fun p=>Sum.inr p.1) (ld.map fun p=>.int p.2),Vl.lst (aY it)]):=rfl
theorem vD {u v:Vl}:cD (["leads","spots"]:List Str) [u,v] "leads"=some u:=rfl
theorem vq {u v:Vl}:cD (["leads","spots"]:List Str) [u,v] "spots"=some v:=rfl
theorem ni:∀ ld:cY,bQ (ld.map fun p=>(Sum.inr p.1:Key)) (ld.map fun p=>Vl.int p.2)=valN ld
 | []=>rfl
 | p::ld=>by
  have ih:=ni ld
  unfold valN at ih ⊢
  simp only [List.map_cons,bQ,ih]
local macro_rules | `(tactic| tm_at "ozO")=>`(tactic| first | with_reducible exact jm _ _ _ | with_reducible exact vD | with_reducible exact vq | with_reducible exact ni _ | with_reducible exact nin_ld | ((with_reducible apply ix_ldz);assumption))
local macro_rules | `(tactic| tm_at "ozX")=>`(tactic| first | exact oF _ | exact eG _ | exact xi_NoName _)
section
variable {ld:cY} {it:Its} {S:Hs}
theorem WN (n:Nat) (hS:NR S):(Mn (n+1)).cal (dot "Web" "name_rows") [vL ld it] S=.ok (.frs (.lst (valN ld))) S:=by
 rw [rZ]
 refine abN rfl hS rfl ?_
 show Ends (exec (Mn n) sO [some (vL ld it)] (S++[])) _
 tm_at "ozR"
 exact ⟨_,rfl,by simp only [Ob.nr,Ou],.inl ⟨[],rfl⟩⟩
theorem Vf (n:Nat) (hS:NR S):(Mn (n+1)).cal (dot "Web" "item_rows") [vL ld it] S=.ok (.frs (.lst (aY it))) S:=by
 rw [sW]
 refine abN rfl hS rfl ?_
 show Ends (exec (Mn n) sH [some (vL ld it)] (S++[])) _
 tm_at "ozR"
 exact ⟨_,rfl,by simp only [Ob.nr,qQ],.inl ⟨[],rfl⟩⟩
theorem agy (n:Nat) (hS:NR S):(Mn (n+2)).cal "_law_told" [vL ld it] S=.ok (.val (rv ld it)) S:=by
 rw [V3]
 refine abQ rfl hS rfl ?_
 show Ends (exec (Mn (n+1)) Wo [some (vL ld it)] (S++[])) _
 have c1:=WN (ld:=ld) (it:=it) n (hS.app (T:=[]) NR.nil)
 have c2:=Vf (ld:=ld) (it:=it) n (hS.app (T:=[]) NR.nil)
 tm_at "ozR"
 exact ⟨_,[],rfl,Z8 _ _,rfl⟩
end
end K04
namespace K04
open PySem L2 Oz
local macro_rules | `(tactic| tm_at "ozO")=>`(tactic| first | with_reducible exact jm _ _ _ | with_reducible exact vD | with_reducible exact vq | with_reducible exact ni _ | with_reducible exact nin_ld | ((with_reducible apply ix_ldz);assumption))
local macro_rules | `(tactic| tm_at "ozX")=>`(tactic| first | exact oF _ | exact eG _ | exact xi_NoName _)
theorem Zo (n:Nat) {x:Vl} (h:x.pd=true) (hd:x.dep≤60) (hw:x.wt≤2 ^ 20) {S:Hs} (hS:NR S):(Mn (n+1)).cal "_law_same" [x,x] S=.ok (.val (.bl true)) S:=by
 rw [Xg]
 refine dh (T:=[]) rfl ?_ hS (by simp only [Vl.nr])
 show exec (Mn n) Oj [some x,some x] S=_
 obtain ⟨z,hz⟩:=acv S h hd hw
 rw [List.append_nil]
 unfold Oj
 refine aq (bD S (ae3 (v_var rfl) (Q4 S h)) aM) ?_
 exact bA (dJ _ _ (pB (aK (v_var rfl) (v_var rfl) (show cmpop .Eq S _ _=some true from Yx S h hd)) (aK (d:=true) (dG (v_var rfl) hz) (dG (v_var rfl) hz) (by simp only [cmpop,zq,YX,decide_true]))))
section
variable {ld:cY} {it:Its} {S:Hs}
def anK (it:Its):Bool:=it.all fun p=>decide (p.1=("cell":Str))
end
end K04
namespace K04
open PySem L2 Oz
local macro_rules | `(tactic| tm_at "ozO")=>`(tactic| first | with_reducible exact jm _ _ _ | with_reducible exact vD | with_reducible exact vq | with_reducible exact ni _ | with_reducible exact nin_ld | ((with_reducible apply ix_ldz);assumption))
local macro_rules | `(tactic| tm_at "ozX")=>`(tactic| first | exact oF _ | exact eG _ | exact xi_NoName _)
theorem aem {ts:List Int} (h:∀ t∈ts,-1≤t∧t≤13):Il (ts.map Vl.int)=true:=Eo fun x hx=>by
 obtain ⟨t,ht,rfl⟩:=List.mem_map.mp hx
 have:=h t ht
 simp only [Vl.pd];exact decide_eq_true (by omega)
theorem Z9 (ts:List Int):pP (ts.map Vl.int)≤0:=yw fun x hx=>by
 obtain ⟨t,_,rfl⟩:=List.mem_map.mp hx
 simp only [Vl.dep];omega
theorem adw (ts:List Int):Zj (ts.map Vl.int)≤ts.length* 21:=by
 have:=NQ (m:=20) (xs:=ts.map Vl.int) fun x hx=>by
  obtain ⟨t,_,rfl⟩:=List.mem_map.mp hx
  simp only [Vl.wt];omega
 rwa [List.length_map] at this
structure Dt (xs:List Vl):Prop where
 p:Il xs=true
 d:pP xs≤5
 w:Zj xs≤10000
section
variable {nm:cY} {it:Its}
theorem alT (h:Raw nm it) (i9:it.length≤13):Dt (valN nm):=by
 refine ⟨Eo fun x hx=> ?_,yw fun x hx=> ?_,Nat.le_trans (NQ (m:=40) fun x hx=> ?_) (by have:=h.fit.n6;rw [jK];omega)⟩<;>obtain ⟨p,hp,rfl⟩:=List.mem_map.mp hx
 ·have:=h.fit.ht p hp
  simp only [Vl.pd,Il,VG (h.hw p hp).sm.2,Bool.and_true,Bool.true_and]
  exact decide_eq_true (by omega)
 ·simp only [Vl.dep,pP];omega
 ·have:p.1.length≤6:=(h.hw p hp).sm.1
  simp only [Vl.wt,Zj];omega
theorem ak4 (h:Raw nm it) (i9:it.length≤13):Dt (aY it):=by
 refine ⟨Eo fun x hx=> ?_,yw fun x hx=> ?_,Nat.le_trans (NQ (m:=80) fun x hx=> ?_) (by rw [fV];omega)⟩<;>obtain ⟨p,hp,rfl⟩:=List.mem_map.mp hx
 ·simp only [Vl.pd,Il,VG (h.hi p hp).w.2,aem fun t ht=>by have:=(h.hi p hp).t t ht;omega,Bool.and_self]
 ·have:=Z9 p.2
  simp only [Vl.dep,pP];omega
 ·have:p.1.length≤8:=(h.hi p hp).w.1
  have:=adw p.2
  have:=(h.hi p hp).l
  simp only [Vl.wt,Zj];omega
theorem ajx (h:Raw nm it) (i9:it.length≤13):(rv nm it).pd=true∧(rv nm it).dep≤60∧(rv nm it).wt≤2 ^ 20:=by
 have a:=alT h i9
 have b:=ak4 h i9
 have:=a.d;have:=b.d;have:=a.w;have:=b.w
 refine ⟨by simp only [rv,Vl.pd,Il,a.p,b.p,Bool.and_self],by simp only [rv,Vl.dep,pP];omega,by simp only [rv,Vl.wt,Zj];omega⟩
theorem afn (n:Nat) (h:Raw nm it) (Yw:it.length≤200) (hf:(ord nm it).length=it.length) {S:Hs} {nv iv:Vl} (hn:Sq S nv (valN nm)) (hi:Sq S iv (aY it)) (hS:NR S) {es:Es} {η:Sg} (hs:evs (Mn (n+3)) es η S=.ok [nv,iv] S) :
  d9 (Mn (n+3)) (.new "Web" es) η S=.ok (O9 (eO nm it) (jf nm it)) S:=by
 refine ajh hs hS (afV n ⟨fun p hp=>by have:=(h.hw p hp).hi;omega,by have:=h.fit.n6;omega,fun p hp=>by have:=(h.hi p hp).w.1;omega,fun p hp=>by have:=(h.hi p hp).l;omega,Nat.le_trans h.fit.i6 (by decide)⟩ Yw (fun i hi=> ?_) (fun q hq=> ?_) ?_ h.fit hf hn hi hS) (Xj _ _)
 ·have e:=List.getElem?_eq_getElem hi
  unfold jc
  rw [e]
  simp only
  rw [abY (h.hw _ (List.getElem_mem hi)),Bool.true_and,decide_eq_true_eq]
  exact ux h.fit.nd (by rw [List.getElem?_map,e];rfl)
 ·unfold dY
  rw [(h.hi q hq).k,Bool.true_and]
  exact List.all_eq_true.mpr fun t ht=>vB.mpr ((h.hi q hq).t t ht)
 ·exact List.all_eq_true.mpr fun p hp=>vB.mpr (h.fit.ht p hp)
end
end K04
namespace K04
open PySem L2 Oz
theorem Qz {y:List Nat} {b k:Nat} (hy:y.length≤k∧∀ c∈y,c<0x110000):∀ ps:List (List Nat),(∀ p∈ps,p.length≤b∧∀ c∈p,c<0x110000)→(TL.joinL y ps).length≤ps.length* (b+k)∧∀ c∈TL.joinL y ps,c<0x110000
 | [],_=>⟨by simp [TL.joinL],fun c h=>by simp [TL.joinL] at h⟩
 | [p],h=>by
  have hp:=h p List.mem_cons_self
  simp only [TL.joinL]
  exact ⟨by simp;omega,hp.2⟩
 | p::q::r,h=>by
  have hp:=h p List.mem_cons_self
  obtain ⟨i1,i2⟩:=Qz hy (q::r) fun x hx=>h x (List.mem_cons_of_mem _ hx)
  simp only [TL.joinL]
  refine ⟨?_,fun c hc=> ?_⟩
  ·rw [List.length_append,List.length_append]
   simp only [List.length_cons] at i1 ⊢
   have e:(r.length+1+1)* (b+k)=(r.length+1)* (b+k)+(b+k):=Nat.succ_mul _ _
   rw [e]
   have:=hp.1
   have:=hy.1
   omega
  ·rcases List.mem_append.mp hc with hc | hc
   ·exact hp.2 c hc
   ·rcases List.mem_append.mp hc with hc | hc
    ·exact hy.2 c hc
    ·exact i2 c hc
theorem Sm.join {b k:Nat} {y:Str} {ps:List Str} (hy:Sm k y) (h:∀ p∈ps,Sm b p):Sm (ps.length* (b+k)) (Txt.join y ps):=by
 have:=Qz (y:=y.cps.toList) hy (ps.map fun z=>z.cps.toList) fun p hp=>by
  obtain ⟨z,hz,rfl⟩:=List.mem_map.mp hp
  exact h z hz
 rw [List.length_map] at this
 rw [TL.join_eq]
 have e:=TL.tl_join y ps
 have e2:(Str.join y ps).cps.toList=TL.joinL y.cps.toList (ps.map fun z=>z.cps.toList):=e
 exact ⟨by show (Str.join y ps).cps.toList.length≤_;rw [e2];exact this.1,by rw [e2];exact this.2⟩
theorem rA {S:Hs} {b k:Nat} {y:Str} {v:Vl} {ps:List Str} (hv:cV S v=some (ps.map .str)) (hy:Sm k y) (h:∀ p∈ps,Sm b p) (hb:ps.length* (b+k)≤1000000):zu .join S y v=some (.str (Txt.join y ps)):=by
 have all:∀ qs:List Str,uC (qs.map Vl.str)=some qs:=fun qs=>by
  induction qs with
  | nil=>rfl
  | cons q qs ih=>simp only [List.map_cons,uC,ih,Option.map_some]
 have sum:∀ qs:List Str,(∀ p∈qs,Sm b p)→(qs.map (·.length)).sum≤qs.length* b:=fun qs=>by
  induction qs with
  | nil=>intro _;simp
  | cons q qs ih=>
   intro h
   have h1:=(h q List.mem_cons_self).1
   have h2:=ih fun p hp=>h p (List.mem_cons_of_mem _ hp)
   simp only [List.map_cons,List.sum_cons,List.length_cons]
   rw [Nat.add_mul];omega
 unfold zu
 simp only [hv,Option.bind_some,all]
 have s:=sum ps h
 have m:ps.length* y.length≤ps.length* k:=Nat.mul_le_mul_left _ hy.1
 rw [Nat.mul_add] at hb
 rw [if_pos (by omega)]
def mk (t:Int):Str:=if t=0 then "-" else if t= -1 then "*" else ((toString t:String):Str)
theorem ahL:∀ k∈List.range 251,((toString ((k:Nat):Int):String):Str).length≤3∧∀ c∈((toString ((k:Nat):Int):String):Str).cps.toList,c<0x110000:=by decide+kernel
theorem Hr {t:Int} (h:0≤t∧t≤250):Sm 3 ((toString t:String):Str):=by
 obtain ⟨k,rfl⟩:=Int.eq_ofNat_of_zero_le h.1
 exact ahL k (List.mem_range.mpr (by omega))
theorem Kh {t:Int} (h: -1≤t∧t≤250):Sm 3 (mk t):=by
 unfold mk
 split
 ·exact ⟨by decide,by decide⟩
 ·split
  ·exact ⟨by decide,by decide⟩
  ·exact Hr (by omega)
theorem str_int {S:Hs} {t:Int} (h: -1≤t∧t≤251):ir .str S (.int t)=some (.str ((toString t:String):Str)):=by
 refine if_pos ?_
 have:t.natAbs<10 ^ 6:=by omega
 have:=Ah this
 omega
theorem ZC (n:Nat) {t:Int} (h: -1≤t∧t≤250) {S:Hs} (hS:NR S):(Mn (n+1)).cal "mark" [.int t] S=.ok (.val (.str (mk t))) S:=by
 rw [aaP]
 refine dh (T:=[]) rfl ?_ hS (by simp only [Vl.nr])
 show exec (Mn n) acj [some (.int t)] S=_
 rw [List.append_nil]
 by_cases c:t=0
 ·subst c
  exact bA (cQ _ (aK (v_var rfl) aj rfl) (bA (dJ _ _ aj)))
 ·refine aq (bD _ (aK (v_var rfl) aj (congrArg some (decide_eq_false c))) aM) (bA (dJ _ _ ?_))
  unfold mk
  rw [if_neg c]
  by_cases d:t= -1
  ·rw [if_pos d]
   exact lW (aK (v_var rfl) aj (congrArg some (decide_eq_true d))) aj
  ·rw [if_neg d]
   exact rM (aK (v_var rfl) aj (congrArg some (decide_eq_false d))) (dG (v_var rfl) (str_int (by omega)))
theorem Xk (n:Nat) {t:Int} (h: -1≤t∧t≤250) {S:Hs} (hS:NR S):(Mn (n+1)).cal "_law_mark" [.int t] S=.ok (.val (.str (mk t))) S:=by
 rw [Vj]
 refine dh (T:=[]) rfl ?_ hS (by simp only [Vl.nr])
 show exec (Mn n) Vz [some (.int t)] S=_
 rw [List.append_nil]
 refine bA (dJ _ _ ?_)
 unfold mk
 by_cases c:t=0
 ·rw [if_pos c]
  exact lW (aK (v_var rfl) aj (congrArg some (decide_eq_true c))) aj
 ·rw [if_neg c]
  refine rM (aK (v_var rfl) aj (congrArg some (decide_eq_false c))) ?_
  by_cases d:t= -1
  ·rw [if_pos d]
   exact lW (aK (v_var rfl) aj (congrArg some (decide_eq_true (by omega)))) aj
  ·rw [if_neg d]
   exact rM (aK (v_var rfl) aj (congrArg some (decide_eq_false (by omega)))) (dG (v_var rfl) (str_int (by omega)))
def wN (p:Str × Int):Str:=(p.1++("=":Str))++mk p.2
def inn (p:Str × List Int):Str:=Txt.join "," (p.2.map mk)
def wI (k:Int) (p:Str × List Int):Str:=(((((toString k:String):Str)++(":":Str))++p.1++("(":Str))++inn p)++(")":Str)
def CP:Int→Its→List Str
 | _,[]=>[]
 | k,p::ps=>wI k p::CP (k+1) ps
theorem lC:∀ (it:Its) (k:Int),(CP k it).length=it.length
 | [],_=>rfl
 | p::ps,k=>by simp only [CP,List.length_cons,lC ps]
theorem zK:∀ {it:Its} {k:Int} {i:Nat} {p:Str × List Int},it[i]? =some p→(CP k it)[i]? =some (wI (k+i) p)
 | [],_,_,_,h=>by simp at h
 | q::ps,k,0,p,h=>by simp at h;subst h;simp [CP]
 | q::ps,k,i+1,p,h=>by
  simp only [List.getElem?_cons_succ] at h
  simp only [CP,List.getElem?_cons_succ]
  rw [zK h]
  congr 2
  omega
theorem Raw.t6 {ld:cY} {it:Its} (h:Raw ld it) {p:Str × Int} (hp:p∈ld): -1≤p.2∧p.2≤250:=by
 have:=h.fit.ht p hp
 have:=h.fit.i6
 omega
theorem Raw.i6 {ld:cY} {it:Its} (h:Raw ld it) {p:Str × List Int} (hp:p∈it):∀ t∈p.2,-1≤t∧t≤250:=fun t ht=>by
 have:=(h.hi p hp).t t ht
 have:=h.fit.i6
 omega
theorem akd {p:Str × Int} (h:yt p.1) (k: -1≤p.2∧p.2≤250):Sm 10 (wN p):=(h.sm.app (b:=1) ⟨by decide,by decide⟩).app (Kh k)
theorem Ug {many:Nat} {p:Str × List Int} (h:Item many p) (k:∀ t∈p.2,-1≤t∧t≤250):Sm 8 (inn p):=by
 have:=Sm.join (b:=3) (k:=1) (y:=",") (ps:=p.2.map mk) ⟨by decide,by decide⟩ fun z hz=>by
  obtain ⟨t,ht,rfl⟩:=List.mem_map.mp hz
  exact Kh (k t ht)
 refine this.le ?_
 rw [List.length_map]
 have:=h.l
 omega
theorem ajz {many:Nat} {j:Int} {p:Str × List Int} (hj:0≤j∧j≤250) (h:Item many p) (k:∀ t∈p.2,-1≤t∧t≤250):Sm 22 (wI j p):=
 ((((((Hr hj).app (b:=1) ⟨by decide,by decide⟩).app h.w).app (b:=1) ⟨by decide,by decide⟩).app (Ug h k)).app (b:=1) ⟨by decide,by decide⟩).le (by omega)
def words (ld:cY) (it:Its):List Str:=ld.map wN++CP 1 it
def txt (ld:cY) (it:Its):Str:=if words ld it=[] then "empty" else Txt.join " " (words ld it)
theorem Hv {ld:cY} {it:Its} (h:Raw ld it):(∀ w∈words ld it,Sm 22 w)∧(words ld it).length≤256:=by
 refine ⟨fun w hw=> ?_,?_⟩
 ·rcases List.mem_append.mp hw with hw | hw
  ·obtain ⟨p,hp,rfl⟩:=List.mem_map.mp hw
   exact (akd (h.hw p hp) (h.t6 hp)).le (by omega)
  ·obtain ⟨i,hi⟩:=List.getElem?_of_mem hw
   have hl:i<it.length:=by rw [← lC it 1];exact (List.getElem?_eq_some_iff.mp hi).1
   rw [zK (List.getElem?_eq_getElem hl)] at hi
   cases hi
   have:=h.fit.i6
   exact ajz (by omega) (h.hi _ (List.getElem_mem hl)) (h.i6 (List.getElem_mem hl))
 ·unfold words
  rw [List.length_append,List.length_map,lC]
  have:=h.fit.n6
  have:=h.fit.i6
  omega
theorem ab5 {ld:cY} {it:Its} (h:Raw ld it):Sm 5888 (txt ld it):=by
 obtain ⟨h1,h2⟩:=Hv h
 unfold txt
 split
 ·exact ⟨by decide,by decide⟩
 ·refine (Sm.join (b:=22) (k:=1) (y:=" ") ⟨by decide,by decide⟩ h1).le ?_
  exact Nat.mul_le_mul_right 23 h2
theorem empty_app (z:Str):Str.empty++z=z:=by
 show (⟨#[]++z.cps⟩:Str)=z
 simp
theorem sl {n:Nat} {z:Str} (h:Sm n z) (hn:n≤1000):z.length≤sizeLine:=Nat.le_trans h.1 (Nat.le_trans hn (by decide))
theorem uG {xs:List Vl} {aQ z:Str} {a b:Nat} (ha:Sm a aQ) (hz:Sm b z) (hb:a+b≤1000):rB (.str z::xs) aQ=rB xs (aQ++z):=by
 simp only [rB,Am]
 rw [if_pos (sl hz (by omega))]
 simp only
 rw [if_pos (sl (ha.app hz) hb)]
theorem ag3 {xs:List Vl} {aQ:Str} {t:Int} {a:Nat} (ha:Sm a aQ) (ht:0≤t∧t≤250) (hb:a+3≤1000):rB (.int t::xs) aQ=rB xs (aQ++((toString t:String):Str)):=by
 have:t.natAbs<10 ^ 6:=by omega
 have:=Ah this
 simp only [rB,Am]
 rw [if_pos (by omega)]
 simp only
 rw [if_pos (sl (ha.app (Hr ht)) hb)]
theorem ai6:Sm 0 Str.empty:=⟨by decide,by decide⟩
theorem acJ (n:Nat) {ld:cY} (hw:∀ p∈ld,yt p.1) (ht:∀ p∈ld,-1≤p.2∧p.2≤250) (hl:ld.length≤1000) {b c d e f g h i:Option Vl} {S:Hs} (hS:NR S):d9 (Mn (n+1)) uw [some (.dct (ld.map fun p=>Sum.inr p.1) (ld.map fun p=>.int p.2)),b,c,d,e,f,g,h,i] S=.ok (.lst ((ld.map wN).map .str)) S:=by
 unfold uw
 have e0:(ld.map wN).map Vl.str=(bQ (ld.map fun p=>(Sum.inr p.1:Key)) (ld.map fun p=>Vl.int p.2)).map fun v=>match v with | .tup [.str z,.int t]=>.str (wN (z,t)) | _=>.non:=by
  rw [ni]
  unfold valN
  rw [List.map_map,List.map_map]
  rfl
 rw [e0]
 refine abO _ rfl (by rw [List.length_map];omega) (fun x hx=> ?_) fun x hx aQ ha=> ?_
 ·rw [ni] at hx
  obtain ⟨p,_,rfl⟩:=List.mem_map.mp hx
  simp only [Vl.nr]
 ·rw [ni] at hx
  obtain ⟨p,hp,rfl⟩:=List.mem_map.mp hx
  refine ⟨_,rfl,aj3 (xs:=[.str p.1,.str "=",.str (mk p.2)]) (aa (v_var rfl) (aa aj (aa (bJ (r:=.val (.str (mk p.2))) (aa (v_var rfl) az) (ZC n (ht p hp) (hS.one (by simpa only [Ob.nr] using ha)))) az))) ?_⟩
  rw [uG ai6 (hw p hp).sm (by omega),empty_app,uG (hw p hp).sm (b:=1) ⟨by decide,by decide⟩ (by omega),uG ((hw p hp).sm.app (b:=1) ⟨by decide,by decide⟩) (Kh (ht p hp)) (by omega)]
  rfl
theorem Rz (n:Nat) {ld:cY} {it:Its} (h:Raw ld it) {S:Hs} (hS:NR S):(Mn (n+2)).cal "web_text" [.dct (ld.map fun p=>Sum.inr p.1) (ld.map fun p=>.int p.2),.lst (aY it)] S=.ok (.val (.str (txt ld it))) S:=by
 rw [DY]
 obtain ⟨ws1,ws2⟩:=Hv h
 have loop:∃ a5 a6 a7 a8,forL (fun η1 S2=>exec (Mn (n+1)) uN η1 S2) (.tp (.cons (.nm 5) (.cons (.tp (.cons (.nm 6) (.cons (.nm 7) .nil))) .nil))) [] (iH 1 (aY it)) [some (.dct (ld.map fun p=>Sum.inr p.1) (ld.map fun p=>.int p.2)),some (.lst (aY it)),some (.ref S.length),none,none,none,none,none,none] (S++[.lst ((ld.map wN).map .str)])
   =.nx [some (.dct (ld.map fun p=>Sum.inr p.1) (ld.map fun p=>.int p.2)),some (.lst (aY it)),some (.ref S.length),none,none,a5,a6,a7,a8] (S++[.lst ((words ld it).map .str)]):=by
  obtain ⟨η',S',h1,a5,a6,a7,a8,e1,e2⟩:=ie (body:=fun η1 S2=>exec (Mn (n+1)) uN η1 S2) (t:=.tp (.cons (.nm 5) (.cons (.tp (.cons (.nm 6) (.cons (.nm 7) .nil))) .nil))) (lk:=[]) (xs:=iH 1 (aY it)) (η:=[some (.dct (ld.map fun p=>Sum.inr p.1) (ld.map fun p=>.int p.2)),some (.lst (aY it)),some (.ref S.length),none,none,none,none,none,none]) (S:=S++[.lst ((ld.map wN).map .str)])
   (fun i η S'=>∃ a5 a6 a7 a8,η=[some (.dct (ld.map fun p=>Sum.inr p.1) (ld.map fun p=>.int p.2)),some (.lst (aY it)),some (.ref S.length),none,none,a5,a6,a7,a8]∧S'=S++[.lst ((ld.map wN++(CP 1 it).take i).map .str)])
   ⟨none,none,none,none,rfl,by simp⟩ (fun i η S' _=>aU _) fun i x η S' hx ⟨a5,a6,a7,a8,e1,e2⟩=>by
    subst e1 e2
    obtain ⟨v,hv,rfl⟩:=pD hx
    obtain ⟨p,hp,rfl⟩:=Wl hv
    have Sh:=List.mem_of_getElem? hp
    have hpt:=h.i6 Sh
    have hI:=h.hi p Sh
    have Rp:i<it.length:=(List.getElem?_eq_some_iff.mp hp).1
    have h6:=h.fit.i6
    have h6n:=h.fit.n6
    have WP:NR (S++[.lst ((ld.map wN++(CP 1 it).take i).map .str)]):=hS.one (by simp only [Ob.nr,lH])
    have hj:(0:Int)≤1+(i:Nat)∧(1:Int)+(i:Nat)≤250:=by omega
    have hq:d9 (Mn (n+1)) uI [some (.dct (ld.map fun p=>Sum.inr p.1) (ld.map fun p=>.int p.2)),some (.lst (aY it)),some (.ref S.length),none,none,some (.int (1+(i:Nat))),some (.str p.1),some (.tup (p.2.map .int)),a8] (S++[.lst ((ld.map wN++(CP 1 it).take i).map .str)])=.ok (.lst ((p.2.map mk).map .str)) (S++[.lst ((ld.map wN++(CP 1 it).take i).map .str)]):=by
     unfold uI
     have e0:(p.2.map mk).map Vl.str=(p.2.map Vl.int).map fun v=>match v with | .int t=>.str (mk t) | _=>.non:=by
      rw [List.map_map,List.map_map];rfl
     rw [e0]
     refine fO [] (p.2.map .int) _ (iG (v_var rfl) rfl) (aU _) (by rw [List.length_map];have:=hI.l;omega) (fun x hx=>by
      obtain ⟨t,_,rfl⟩:=List.mem_map.mp hx
      simp only [Vl.nr]) fun x hx aQ ha=> ?_
     obtain ⟨t,ht,rfl⟩:=List.mem_map.mp hx
     exact ⟨_,rfl,bJ (r:=.val (.str (mk t))) (aa (v_var rfl) az) (ZC n (hpt t ht) (WP.one (by simpa only [Ob.nr] using ha)))⟩
    have hjn:zu .join (S++[.lst ((ld.map wN++(CP 1 it).take i).map .str)]) "," (.lst ((p.2.map mk).map .str))=some (.str (inn p)):=rA (b:=3) (k:=1) rfl ⟨by decide,by decide⟩ (fun z hz=>by
     obtain ⟨t,ht,rfl⟩:=List.mem_map.mp hz
     exact Kh (hpt t ht)) (by rw [List.length_map];have:=hI.l;omega)
    have hin:=Ug hI hpt
    refine ⟨_,rfl,_,_,.inl (aq (bz _ _ (xN aj (dw hq) hjn) rfl) (aq (M9 _ _ (Bt (k:=S.length) (ys:=(ld.map wN++(CP 1 it).take i).map .str) (v_var rfl) (ju _ _) (aa (aj3 (xs:=[.int (1+(i:Nat)),.str ":",.str p.1,.str "(",.str (inn p),.str ")"]) (out:=wI (1+(i:Nat)) p) (aa (v_var rfl) (aa aj (aa (v_var rfl) (aa aj (aa (v_var rfl) (aa aj az)))))) ?_) az) List.getElem?_concat_length (kh ?_))) aM)),_,_,_,_,rfl,?_⟩
    ·have c1:Sm 1 (":":Str):=⟨by decide,by decide⟩
     have c2:Sm 1 ("(":Str):=⟨by decide,by decide⟩
     have c3:Sm 1 (")":Str):=⟨by decide,by decide⟩
     have k0:=Hr hj
     have k1:=k0.app c1
     have k2:=k1.app hI.w
     have k3:=k2.app c2
     have k4:=k3.app hin
     rw [ag3 ai6 hj (by omega),empty_app,uG k0 c1 (by omega),uG k1 hI.w (by omega),uG k2 c2 (by omega),uG k3 hin (by omega),uG k4 c3 (by omega)]
     rfl
    ·rw [List.length_map,List.length_append,List.length_map,List.length_take,lC];omega
    ·rw [iT,cO (zK hp)]
     simp
  subst e1
  rw [uV,fV,List.take_of_length_le (by rw [lC];exact Nat.le_refl _)] at e2
  subst e2
  exact ⟨a5,a6,a7,a8,h1⟩
 obtain ⟨a5,a6,a7,a8,acd⟩:=loop
 refine dh (T:=[.lst ((words ld it).map .str)]) rfl ?_ hS (by simp only [Vl.nr])
 show exec (Mn (n+1)) Gv [some (.dct (ld.map fun p=>Sum.inr p.1) (ld.map fun p=>.int p.2)),some (.lst (aY it)),none,none,none,none,none,none,none] S=_
 have mZ:ir .len (S++[.lst ((words ld it).map .str)]) (.ref S.length)=some (.int (words ld it).length):=by
  simp only [ir,aX,cV,List.getElem?_concat_length,Option.map_some,List.length_map]
 refine aq (bz _ _ (m9 (acJ n h.hw (fun p hp=>h.t6 hp) (by have:=h.fit.n6;omega) hS)) rfl) (aq (jJ _ _ _ (Hq (v_var rfl) rfl) acd) (bA (dJ _ _ ?_)))
 unfold txt
 by_cases c:words ld it=[]
 ·rw [if_pos c]
  exact rM (aK (dG (v_var rfl) mZ) aj (by rw [c];rfl)) aj
 ·rw [if_neg c]
  have hp:0<(words ld it).length:=List.length_pos_iff.mpr c
  refine lW (aK (dG (v_var rfl) mZ) aj (congrArg some (decide_eq_true (by omega)))) (xN aj (v_var rfl) (rA (b:=22) (k:=1) (by simp only [cV,List.getElem?_concat_length]) ⟨by decide,by decide⟩ ws1 (by omega)))
theorem G3 {xs:List Vl} {ds:List PyData} (h:uU xs=some ds):ds.isEmpty=xs.isEmpty:=by
 cases xs with
 | nil=>simp only [uU,Option.some.injEq] at h;subst h;rfl
 | cons x xs=>
  simp only [uU] at h
  split at h
  ·cases h;rfl
  ·cases h
theorem xM {S:Hs} {v:Vl} {xs:List Vl} (hv:dataOf S v=(Vl.lst xs).toD) (h:Il xs=true) (hd:pP xs≤50):oW S v (.lst [])=some xs.isEmpty:=by
 have p1:(Vl.lst xs).pd=true:=by simp only [Vl.pd];exact h
 have p2:(Vl.lst []).pd=true:=by simp only [Vl.pd,Il]
 obtain ⟨d1,e1,k1⟩:=Dd _ p1
 obtain ⟨d2,e2,k2⟩:=u5 S p2
 have d1':=k1.shaped (by simp only [Vl.dep];omega)
 have d2':=k2.shaped (by simp only [Vl.dep,pP];omega)
 unfold oW
 rw [hv,e1,e2]
 simp only
 rw [if_pos ⟨d1',d2'⟩]
 simp only [Vl.toD] at e1
 obtain ⟨ds,e3,rfl⟩:=Option.map_eq_some_iff.mp e1
 have f2:d2=.list []:=by
  unfold dataOf at e2
  rw [zj _ _ (Ws _ p2)] at e2
  simp only [Vl.toD,uU,Option.map_some,Option.some.injEq] at e2
  exact e2.symm
 subst f2
 rw [← G3 e3]
 cases ds<;>simp [PyData.eqv,PyData.eqvAll]
theorem eq_nil {S:Hs} {xs:List Vl} (h:Il xs=true) (hd:pP xs≤50):cmpop .Eq S (.lst xs) (.lst [])=some xs.isEmpty:=by
 simp only [cmpop]
 unfold zq
 simp only [YX]
 rw [Mw _ rfl]
 simp only
 refine xM ?_ h hd
 unfold dataOf
 rw [zj _ _ (by simp only [Vl.nr];exact Om _ h)]
theorem afD {S:Hs} {r:Nat} {xs:List Vl} (hr:S[r]? =some (.lst xs)) (h:Il xs=true) (hd:pP xs≤50):cmpop .NotEq S (.ref r) (.lst [])=some (!xs.isEmpty):=by
 have e0:vO S (.ref r) (.lst [])=none:=Mw _ (by simp only [aX,hr])
 simp only [cmpop]
 rw [e0]
 simp only [Option.isSome_none,Bool.false_eq_true,if_false]
 unfold zq
 simp only [YX]
 rw [e0]
 simp only
 rw [xM (xs:=xs) ?_ h hd]
 ·rfl
 ·unfold dataOf aiR rF
  simp only [Vl.dN,hr]
  rw [show (Ob.lst xs).inl=.lst xs from rfl,zj _ _ (by simp only [Vl.nr];exact Om _ h)]
theorem sl2 {m n:Nat} {x y:Str} (h:Sm m x) (k:Sm n y) (hb:m+n≤1000):x.length+y.length≤sizeLine:=Nat.le_trans (Nat.add_le_add h.1 k.1) (Nat.le_trans hb (by decide))
theorem Vb (n:Nat) {ld:cY} {it:Its} (h:Raw ld it) {S:Hs} (hS:NR S):(Mn (n+2)).cal "_law_text" [rv ld it] S=.ok (.val (.str (txt ld it))) S:=by
 rw [VB]
 obtain ⟨ws1,ws2⟩:=Hv h
 have n6:=h.fit.n6
 have i6:=h.fit.i6
 have c0:Sm 1 ("=":Str):=⟨by decide,by decide⟩
 have c1:Sm 1 (":":Str):=⟨by decide,by decide⟩
 have c2:Sm 1 ("(":Str):=⟨by decide,by decide⟩
 have c3:Sm 1 (")":Str):=⟨by decide,by decide⟩
 have names:d9 (Mn (n+1)) FW [some (rv ld it),none,none,none,none,none,none,none] S=.ok (.lst ((ld.map wN).map .str)) S:=by
  unfold FW
  have e0:(ld.map wN).map Vl.str=(valN ld).map fun v=>match v with | .tup [.str z,.int t]=>.str (wN (z,t)) | _=>.non:=by
   unfold valN
   rw [List.map_map,List.map_map];rfl
  rw [e0]
  refine fO [] (valN ld) _ (iG (du (v_var rfl) aj (ix_tup (i:=0) rfl)) rfl) (aU S) (by rw [jK];omega) (fun x hx=>by
   obtain ⟨p,_,rfl⟩:=List.mem_map.mp hx
   simp only [Vl.nr]) fun x hx aQ ha=> ?_
  obtain ⟨p,hp,rfl⟩:=List.mem_map.mp hx
  have hw:=(h.hw p hp).sm
  exact ⟨_,rfl,aW (aW (v_var rfl) aj (eU (sl2 hw c0 (by omega)))) (bJ (r:=.val (.str (mk p.2))) (aa (v_var rfl) az) (Xk n (h.t6 hp) (hS.one (by simpa only [Ob.nr] using ha)))) (eU (sl2 (hw.app c0) (Kh (h.t6 hp)) (by omega)))⟩
 have loop:∃ a4 a5 a6,forL (fun η1 S2=>exec (Mn (n+1)) Gh η1 S2) (.nm 4) [] (jg 0 it.length) [some (rv ld it),some (.ref S.length),none,none,none,none,none,none] (S++[.lst ((ld.map wN).map .str)])
   =.nx [some (rv ld it),some (.ref S.length),none,none,a4,a5,a6,none] (S++[.lst ((words ld it).map .str)]):=by
  obtain ⟨η',S',g1,a4,a5,a6,e1,e2⟩:=ie (body:=fun η1 S2=>exec (Mn (n+1)) Gh η1 S2) (t:=.nm 4) (lk:=[]) (xs:=jg 0 it.length) (η:=[some (rv ld it),some (.ref S.length),none,none,none,none,none,none]) (S:=S++[.lst ((ld.map wN).map .str)])
   (fun i η S'=>∃ a4 a5 a6,η=[some (rv ld it),some (.ref S.length),none,none,a4,a5,a6,none]∧S'=S++[.lst ((ld.map wN++(CP 1 it).take i).map .str)])
   ⟨none,none,none,rfl,by simp⟩ (fun i η S' _=>aU _) fun i x η S' hx ⟨a4,a5,a6,e1,e2⟩=>by
    subst e1 e2
    obtain ⟨hi,rfl⟩:=rP hx
    have hp:it[i]? =some it[i]:=List.getElem?_eq_getElem hi
    have Sh:=List.getElem_mem hi
    generalize it[i]=p at hp Sh
    have hpt:=h.i6 Sh
    have hI:=h.hi p Sh
    have WP:NR (S++[.lst ((ld.map wN++(CP 1 it).take i).map .str)]):=hS.one (by simp only [Ob.nr,lH])
    have hj:(0:Int)≤1+(i:Nat)∧(1:Int)+(i:Nat)≤250:=by omega
    have hq:d9 (Mn (n+1)) GX [some (rv ld it),some (.ref S.length),none,none,some (.int i),some (.str p.1),some (.tup (p.2.map .int)),none] (S++[.lst ((ld.map wN++(CP 1 it).take i).map .str)])=.ok (.lst ((p.2.map mk).map .str)) (S++[.lst ((ld.map wN++(CP 1 it).take i).map .str)]):=by
     unfold GX
     have e0:(p.2.map mk).map Vl.str=(p.2.map Vl.int).map fun v=>match v with | .int t=>.str (mk t) | _=>.non:=by
      rw [List.map_map,List.map_map];rfl
     rw [e0]
     refine fO [] (p.2.map .int) _ (iG (v_var rfl) rfl) (aU _) (by rw [List.length_map];have:=hI.l;omega) (fun x hx=>by
      obtain ⟨t,_,rfl⟩:=List.mem_map.mp hx
      simp only [Vl.nr]) fun x hx aQ ha=> ?_
     obtain ⟨t,ht,rfl⟩:=List.mem_map.mp hx
     exact ⟨_,rfl,bJ (r:=.val (.str (mk t))) (aa (v_var rfl) az) (Xk n (hpt t ht) (WP.one (by simpa only [Ob.nr] using ha)))⟩
    have hjn:zu .join (S++[.lst ((ld.map wN++(CP 1 it).take i).map .str)]) "," (.lst ((p.2.map mk).map .str))=some (.str (inn p)):=rA (b:=3) (k:=1) rfl ⟨by decide,by decide⟩ (fun z hz=>by
     obtain ⟨t,ht,rfl⟩:=List.mem_map.mp hz
     exact Kh (hpt t ht)) (by rw [List.length_map];have:=hI.l;omega)
    have hin:=Ug hI hpt
    have k0:=Hr hj
    have k1:=k0.app c1
    have k2:=k1.app hI.w
    have k3:=k2.app c2
    have k4:=k3.app hin
    have ej:((i:Int)+1)=1+(i:Nat):=Int.add_comm _ _
    have ix:dM (S++[.lst ((ld.map wN++(CP 1 it).take i).map .str)]) (.lst (aY it)) (.int i)=some (.tup [.str p.1,.tup (p.2.map .int)]):=jT (pF hp)
    refine ⟨_,rfl,_,_,.inl (aq (bz _ _ (du (du (v_var rfl) aj (ix_tup (i:=1) rfl)) (v_var rfl) ix) rfl) (aq (M9 _ _ (Bt (k:=S.length) (ys:=(ld.map wN++(CP 1 it).take i).map .str) (v_var rfl) (ju _ _) (aa (x:=.str (wI (1+(i:Nat)) p)) (aW (aW (aW (aW (aW (dG (aW (v_var rfl) aj (eZ _ _)) (by rw [ej];exact str_int (by omega))) aj (eU (sl2 k0 c1 (by omega)))) (v_var rfl) (eU (sl2 k1 hI.w (by omega)))) aj (eU (sl2 k2 c2 (by omega)))) (xN aj (dw hq) hjn) (eU (sl2 k3 hin (by omega)))) aj (eU (sl2 k4 c3 (by omega)))) az) List.getElem?_concat_length (kh ?_))) aM)),_,_,_,rfl,?_⟩
    ·rw [List.length_map,List.length_append,List.length_map,List.length_take,lC];omega
    ·rw [iT,cO (zK hp)]
     simp
  subst e1
  rw [iw,List.take_of_length_le (by rw [lC];exact Nat.le_refl _)] at e2
  subst e2
  exact ⟨a4,a5,a6,g1⟩
 obtain ⟨a4,a5,a6,hlp⟩:=loop
 refine dh (T:=[.lst ((words ld it).map .str)]) rfl ?_ hS (by simp only [Vl.nr])
 show exec (Mn (n+1)) WW [some (rv ld it),none,none,none,none,none,none,none] S=_
 have pd:Il ((words ld it).map Vl.str)=true:=Eo fun x hx=>by
  obtain ⟨w,hw,rfl⟩:=List.mem_map.mp hx
  simp only [Vl.pd];exact VG (ws1 w hw).2
 have dp:pP ((words ld it).map Vl.str)≤0:=yw fun x hx=>by
  obtain ⟨w,hw,rfl⟩:=List.mem_map.mp hx
  simp only [Vl.dep];omega
 have ne:=afD (S:=S++[.lst ((words ld it).map .str)]) (r:=S.length) List.getElem?_concat_length pd (by omega)
 refine aq (bz _ _ (m9 names) rfl) (aq (jJ _ _ _ (mO (k:=it.length) (dG (du (v_var rfl) aj (ix_tup (i:=1) rfl)) (by rw [mK,fV])) (by omega)) hlp) (bA (dJ _ _ ?_)))
 unfold txt
 by_cases c:words ld it=[]
 ·rw [if_pos c]
  rw [c] at ne ⊢
  exact rM (aK (v_var rfl) (dw (lL az (show 0≤1000000 by decide))) ne) aj
 ·rw [if_neg c]
  have e:((words ld it).map Vl.str).isEmpty=false:=by
   cases hw:words ld it with
   | nil=>exact absurd hw c
   | cons w ws=>rfl
  rw [e] at ne
  refine lW (aK (v_var rfl) (dw (lL az (show 0≤1000000 by decide))) ne) (xN aj (v_var rfl) (rA (b:=22) (k:=1) (by simp only [cV,List.getElem?_concat_length]) ⟨by decide,by decide⟩ ws1 (by omega)))
end K04
namespace K04
open PySem L2 Oz
theorem eqZ {S:Hs} {a b:Str}:cmpop .Eq S (.str a) (.str b)=some (decide (a=b)):=by simp [cmpop,zq,YX]
theorem neZ {S:Hs} {a b:Str}:cmpop .NotEq S (.str a) (.str b)=some (!decide (a=b)):=rfl
def fig:Str:="0123456789"
def Kl (c:Nat):Bool:=decide (c∈fig.cps.toList)
def digs (z:Str):Bool:=z.cps.toList.all Kl
theorem akT:∀ a∈List.range 10,(intText? ⟨#[48+a]⟩).isSome=true:=by decide+kernel
theorem akK:∀ a∈List.range 10,∀ b∈List.range 10,(intText? ⟨#[48+a,48+b]⟩).isSome=true:=by decide+kernel
theorem al5:∀ a∈List.range 10,∀ b∈List.range 10,∀ c∈List.range 10,(intText? ⟨#[48+a,48+b,48+c]⟩).isSome=true:=by decide+kernel
theorem Ag {c:Nat} (h:Kl c=true):∃ a∈List.range 10,c=48+a:=by
 have h:=of_decide_eq_true h
 have e:fig.cps.toList=[48,49,50,51,52,53,54,55,56,57]:=by decide+kernel
 rw [e] at h
 exact ⟨c - 48,List.mem_range.mpr (by simp at h;omega),by simp at h;omega⟩
theorem int_ok {w:Str} (h1:1≤w.length) (h3:w.length≤3) (hd:digs w=true):∃ v,intText? w=some v:=by
 refine Option.isSome_iff_exists.mp ?_
 obtain ⟨⟨l⟩⟩:=w
 have hd:∀ c∈l,Kl c=true:=List.all_eq_true.mp hd
 have h1:1≤l.length:=h1
 have h3:l.length≤3:=h3
 match l,h1,h3,hd with
 | [a],_,_,hd=>
  obtain ⟨i,hi,rfl⟩:=Ag (hd a (by simp))
  exact akT i hi
 | [a,b],_,_,hd=>
  obtain ⟨i,hi,rfl⟩:=Ag (hd a (by simp))
  obtain ⟨j,hj,rfl⟩:=Ag (hd b (by simp))
  exact akK i hi j hj
 | [a,b,c],_,_,hd=>
  obtain ⟨i,hi,rfl⟩:=Ag (hd a (by simp))
  obtain ⟨j,hj,rfl⟩:=Ag (hd b (by simp))
  obtain ⟨k,hk,rfl⟩:=Ag (hd c (by simp))
  exact al5 i hi j hj k hk
def rm (w:Str):Option Int:=if w="-" then some 0 else if w="*" then some (-1) else if (1≤w.length∧w.length≤3)∧digs w=true then intText? w else none
def fFg (x:Vl):Vl:=match x with
 | .str s=>.bl (Kl (s.cps.getD 0 0))
 | _=>.non
theorem acl (z:Str):(iI z).map fFg=z.cps.toList.map fun c=>Vl.bl (Kl c):=by
 unfold iI
 rw [List.map_map]
 rfl
theorem aha (n:Nat) {z:Str} (hz:z.length≤1000) {a:Option Vl} (S:Hs):d9 (Mn n) jG [some (.str z),a] S=.ok (.lst (z.cps.toList.map fun c=>.bl (Kl c))) S:=by
 rw [← acl]
 unfold jG
 refine fO [] (iI z) fFg (yo (v_var rfl)) (aU S) (by rw [wV];omega) (fun x hx=> ?_) fun x hx aQ _=> ?_
 ·obtain ⟨d,_,rfl⟩:=j7 hx
  simp only [fFg,Vl.nr]
 ·obtain ⟨d,_,rfl⟩:=j7 hx
  refine ⟨_,rfl,aK (v_var rfl) aj ?_⟩
  simp only [cmpop,lX]
  rw [if_pos (show (⟨#[d]⟩:Str).length=1 from rfl)]
  rfl
def bt:Xc:=⟨"BadText",none⟩
theorem Wz (n:Nat) {w:Str} (hw:w.length≤1000) {S:Hs} (hS:NR S):(Mn (n+1)).cal "read_mark" [.str w] S=match rm w with | some v=>.ok (.val (.int v)) S | none=>.exc bt S:=by
 rw [Bo]
 have hl:ir .len S (.str w)=some (.int w.length):=if_pos (iY (by omega))
 unfold rm
 by_cases c0:w="-"
 ·rw [if_pos c0]
  refine dh (T:=[]) rfl ?_ hS (by simp only [Vl.nr])
  show exec (Mn n) jx [some (.str w),none] S=_
  rw [List.append_nil]
  exact bA (cQ _ (aK (v_var rfl) aj (eqZ.trans (congrArg some (decide_eq_true c0)))) (bA (dJ _ _ aj)))
 rw [if_neg c0]
 have z0:aP (Mn n) (.ite (.cmp .Eq (.var 0) (.cst (.str "-"))) (.cons (.ret (.cst (.int 0))) .nil) .nil) [some (.str w),none] S=.nx [some (.str w),none] S:=bD _ (aK (v_var rfl) aj (eqZ.trans (congrArg some (decide_eq_false c0)))) aM
 by_cases c1:w="*"
 ·rw [if_pos c1]
  refine dh (T:=[]) rfl ?_ hS (by simp only [Vl.nr])
  show exec (Mn n) jx [some (.str w),none] S=_
  rw [List.append_nil]
  exact aq z0 (bA (cQ _ (aK (v_var rfl) aj (eqZ.trans (congrArg some (decide_eq_true c1)))) (bA (dJ _ _ aj))))
 rw [if_neg c1]
 have z1:aP (Mn n) (.ite (.cmp .Eq (.var 0) (.cst (.str "*"))) (.cons (.ret (.cst (.int (-1)))) .nil) .nil) [some (.str w),none] S=.nx [some (.str w),none] S:=bD _ (aK (v_var rfl) aj (eqZ.trans (congrArg some (decide_eq_false c1)))) aM
 -- the test
 have tst:ev (Mn n) (.bor (.pY (.Rq .LtE .LtE (.cst (.int 1)) (.b1 .len (.var 0)) (.cst (.int 3)))) (.pY (.b1 .all (.inl jG)))) [some (.str w),none] S=.ok (.bl (!decide ((1≤w.length∧w.length≤3)∧digs w=true))) S:=by
  by_cases l1:1≤w.length
  ·by_cases l3:w.length≤3
   ·have h1:ev (Mn n) (.pY (.Rq .LtE .LtE (.cst (.int 1)) (.b1 .len (.var 0)) (.cst (.int 3)))) [some (.str w),none] S=.ok (.bl false) S:=jR (d:=true) (Lj (d1:=true) aj (dG (v_var rfl) hl) (congrArg some (decide_eq_true (by omega))) aj (congrArg some (decide_eq_true (by omega))))
    refine t8 h1 ?_
    have h2:ev (Mn n) (.b1 .all (.inl jG)) [some (.str w),none] S=.ok (.bl (digs w)) S:=dG (dw (aha n (by omega) S)) (CW S _ _)
    rw [jR h2]
    cases digs w<;>simp [l1,l3]
   ·rw [show decide ((1≤w.length∧w.length≤3)∧digs w=true)=false from decide_eq_false (by omega)]
    exact O3 (jR (d:=false) (Lj (d1:=true) aj (dG (v_var rfl) hl) (congrArg some (decide_eq_true (by omega))) aj (congrArg some (decide_eq_false (by omega)))))
  ·rw [show decide ((1≤w.length∧w.length≤3)∧digs w=true)=false from decide_eq_false (by omega)]
   exact O3 (jR (d:=false) (Mi aj (dG (v_var rfl) hl) (congrArg some (decide_eq_false (by omega)))))
 by_cases c2:(1≤w.length∧w.length≤3)∧digs w=true
 ·rw [if_pos c2]
  obtain ⟨v,hv⟩:=int_ok c2.1.1 c2.1.2 c2.2
  rw [hv]
  refine dh (T:=[]) rfl ?_ hS (by simp only [Vl.nr])
  show exec (Mn n) jx [some (.str w),none] S=_
  rw [List.append_nil]
  rw [decide_eq_true c2] at tst
  refine aq z0 (aq z1 (aq (bD _ tst aM) (bA (dJ _ _ (dG (v_var rfl) ?_)))))
  simp only [ir]
  rw [if_pos (Nat.le_trans c2.1.2 (by decide)),hv];rfl
 ·rw [if_neg c2]
  obtain ⟨x,rfl,e⟩:=afw (M:=Mn n) (d:=uF) (xs:=[.str w]) (·=bt) rfl hS (by
   show Ends (exec (Mn n) jx [some (.str w),none] (S++[])) _
   rw [List.append_nil]
   rw [decide_eq_false c2] at tst
   have ex:exec (Mn n) jx [some (.str w),none] S=.exc bt [some (.str w),none] S:=aq z0 (aq z1 (cA (cQ _ tst (cA (by simp only [aP,evs,Res.out,ig,List.length_nil,Nat.zero_le,if_true];rfl)))))
   rw [ex]
   exact ⟨bt,_,[],by rw [List.append_nil],fun ns vs e=>(by cases e),rfl⟩)
  exact e
def Yr:List Str→Option (List Int)
 | []=>some []
 | w::ws=>match rm w with
  | some v=>(Yr ws).map (v::·)
  | none=>none
theorem Wb:∀ {ws:List Str} {vs:List Int},Yr ws=some vs→vs.length=ws.length
 | [],vs,h=>by cases h;rfl
 | w::ws,vs,h=>by
  simp only [Yr] at h
  cases e:rm w with
  | none=>rw [e] at h;cases h
  | some v=>
   rw [e] at h
   simp only [Option.map_eq_some_iff] at h
   obtain ⟨us,h1,rfl⟩:=h
   simp only [List.length_cons,Wb h1]
noncomputable def stM (n:Nat) (η:Sg) (x:Vl) (S2:Hs):Res (Option Vl):=match aZ (.nm 5) x (bR η [5]) with
 | none=>.bad
 | some η1=>(ev (Mn (n+1)) (.call "read_mark" (.cons (.var 5) .nil)) η1 S2).bind fun y S4=>.ok (some y) S4
theorem ahP (n:Nat) {w:Str} (hw:w.length≤1000) {S:Hs} (hS:NR S) (a b c d e f:Option Vl):stM n [a,b,c,d,e,f] (.str w) S=match rm w with | some v=>.ok (some (.int v)) S | none=>.exc bt S:=by
 unfold stM
 rw [show aZ (.nm 5) (.str w) (bR [a,b,c,d,e,f] [5])=some [a,b,c,d,e,some (.str w)] from rfl]
 have hc:=Wz n hw hS
 cases er:rm w with
 | none=>
  rw [er] at hc
  simp only
  rw [yd (aa (v_var rfl) az) hc]
  rfl
 | some v=>
  rw [er] at hc
  simp only
  rw [bJ (aa (v_var rfl) az) hc]
  rfl
theorem Q9 (n:Nat) {S:Hs} (hS:NR S) (a b c d e f:Option Vl):∀ (ws:List Str) (aQ:List Int),(∀ w∈ws,w.length≤1000)→aQ.length+ws.length≤10000→
  m7 (stM n [a,b,c,d,e,f]) [] (ws.map .str) (aQ.map .int) S=match Yr ws with
   | some vs=>.ok ((aQ++vs).map .int) S
   | none=>.exc bt S
 | [],aQ,_,_=>by
  simp only [List.map_nil,m7]
  rw [if_pos (aU S)]
  simp only [Yr,List.append_nil]
 | w::ws,aQ,hw,hl=>by
  have WP:NR (S++[.lst (aQ.map .int)]):=hS.one (by simp only [Ob.nr,dW])
  have hc:=ahP n (hw w List.mem_cons_self) WP a b c d e f
  simp only [List.map_cons,m7]
  rw [if_pos (aU S)]
  simp only [Yr]
  cases er:rm w with
  | none=>
   rw [er] at hc
   rw [hc]
   simp only
   rw [if_pos ⟨trivial,rfl⟩]
  | some v=>
   rw [er] at hc
   rw [hc]
   simp only
   have hz:(10000:Nat)<sizeLine:=by decide
   rw [if_pos ⟨trivial,by rw [List.length_map];simp only [List.length_cons] at hl;omega⟩]
   rw [if_pos (show (Vl.int v).lim S.length=true by simp [Vl.lim])]
   have ih:=Q9 n hS a b c d e f ws (aQ++[v]) (fun z hz=>hw z (List.mem_cons_of_mem _ hz)) (by simp only [List.length_append,List.length_cons,List.length_nil] at hl ⊢;omega)
   rw [List.map_append,List.map_cons,List.map_nil] at ih
   rw [ih]
   cases Yr ws with
   | none=>rfl
   | some vs=>simp only [Option.map_some,List.append_assoc,List.cons_append,List.nil_append]
end K04
namespace K04
open PySem L2 Oz
theorem abM (S:List Nat):∀ (l aQ:List Nat) {a b:List Nat},TL.par S aQ l=some (a,b)→a.length+b.length≤aQ.length+l.length
 | [],_,_,_,h=>by simp [TL.par] at h
 | c::r,aQ,a,b,h=>by
  unfold TL.par at h
  split at h
  ·cases h
   simp only [List.length_drop,List.length_cons];omega
  ·have:=abM S r (aQ++[c]) h
   simp only [List.length_append,List.length_cons,List.length_nil] at this ⊢
   omega
theorem Ls (x:Str):(TL.tl x).length=x.length:=(TL.len_tl x).symm
theorem vH (x y:Str) (hy:TL.tl y≠[]):(Txt.partition x y).1.length≤x.length∧(Txt.partition x y).2.2.length≤x.length:=by
 rw [TL.partition_par x y hy]
 have hx:=Ls x
 cases e:TL.par (TL.tl y) [] (TL.tl x) with
 | none=>exact ⟨Nat.le_refl _,Nat.zero_le _⟩
 | some p=>
  obtain ⟨a,b⟩:=p
  have:=abM _ _ _ e
  simp only [List.length_nil] at this
  have ha:(⟨a.toArray⟩:Str).length=a.length:=by simp [Str.length]
  have hb:(⟨b.toArray⟩:Str).length=b.length:=by simp [Str.length]
  simp only
  rw [ha,hb]
  omega
theorem QT (S:List Nat):∀ (ps:List (List Nat)) (p:List Nat),p∈ps→p.length≤(TL.joinL S ps).length
 | [],_,h=>by cases h
 | [q],p,h=>by
  rw [List.mem_singleton.mp h];exact Nat.le_refl _
 | q::r::t,p,h=>by
  simp only [TL.joinL,List.length_append]
  rcases List.mem_cons.mp h with rfl | h
  ·omega
  ·have:=QT S (r::t) p h
   omega
theorem zb {x y p:Str} (h:p∈Txt.split x y):p.length≤x.length:=by
 have e:=TL.tl_join y (Txt.split x y)
 rw [PySem.StrLaws.join_split] at e
 have:=QT (TL.tl y) _ (TL.tl p) (List.mem_map_of_mem h)
 rw [← e,Ls,Ls] at this
 exact this
theorem DG (z:Str) (lo hi:Option Int):(cutS z lo hi).length≤z.length:=by
 unfold cutS
 show (List.toArray _).size≤z.cps.size
 rw [List.size_toArray,List.length_take,List.length_drop,Array.length_toList]
 omega
section
variable {M:aF} {a b:E} {η:Sg} {S S1 S2:Hs} {z w:Str}
theorem Tf (ha:ev M a η S=.ok (.str z) S1) (hb:ev M b η S1=.ok (.str w) S2) (hw:w.length≠0) (hz:z.length≤1000000):ev M (.tm .part a b) η S=.ok (.tup [.str (Txt.partition z w).1,.str (Txt.partition z w).2.1,.str (Txt.partition z w).2.2]) S2:=by
 simp only [ev,ha,hb,Res.bind,gY,zu]
 rw [if_pos ⟨hw,iY hz⟩]
theorem QH {lo hi:Option Int} (hz:z.length≤1000000):Dy (.str z) lo hi=some (.str (cutS z lo hi)):=if_pos (iY hz)
end
def WT (z:Str):Str:=cutS z (some (-1)) none
def fj (z:Str):Str:=cutS z none (some (-1))
def ri (t:Str):Option (Str × List Int):=
 if (Txt.partition t "(").2.1="" then none else if WT (Txt.partition t "(").2.2=")" then
  (if fj (Txt.partition t "(").2.2="" then some ((Txt.partition t "(").1,[]) else (Yr (Txt.split (fj (Txt.partition t "(").2.2) ",")).map fun vs=>((Txt.partition t "(").1,vs))
 else none
theorem ajS {t:Str} {p:Str × List Int} (h:ri t=some p):p.1.length≤t.length∧p.2.length≤t.length+2:=by
 have hp:=vH t "(" (by decide)
 unfold ri at h
 split at h
 ·cases h
 ·split at h
  ·split at h
   ·cases h
    exact ⟨hp.1,Nat.zero_le _⟩
   ·simp only [Option.map_eq_some_iff] at h
    obtain ⟨vs,h1,rfl⟩:=h
    refine ⟨hp.1,?_⟩
    have e:=Wb h1
    have:=PyProof.Rows.split_le (fj (Txt.partition t "(").2.2) ","
    have:=DG (Txt.partition t "(").2.2 none (some (-1))
    show vs.length≤_
    unfold fj at *
    have:=hp.2
    omega
  ·cases h
theorem ad3 (n:Nat) {t:Str} (ht:t.length≤1000) {S:Hs} (hS:NR S):(Mn (n+2)).cal "read_item" [.str t] S=match ri t with | some p=>.ok (.val (.tup [.str p.1,.tup (p.2.map .int)])) S | none=>.exc bt S:=by
 rw [Cd]
 have hp:=vH t "(" (by decide)
 unfold ri
 generalize hP:Txt.partition t "("=P at hp
 obtain ⟨wd,br,rest⟩:=P
 simp only at hp ⊢
 have z0:aP (Mn (n+1)) (.asg (.tp (.cons (.nm 1) (.cons (.nm 2) (.cons (.nm 3) .nil)))) (.tm .part (.var 0) (.cst (.str "(")))) [some (.str t),none,none,none,none,none] S=.nx [some (.str t),some (.str wd),some (.str br),some (.str rest),none,none] S:=by
  refine bz _ _ (Tf (v_var rfl) aj (by decide) (by omega)) ?_
  rw [hP];rfl
 have sl:ev (Mn (n+1)) (.Cz (.var 3) (.some (.neg (.cst (.int 1)))) .none) [some (.str t),some (.str wd),some (.str br),some (.str rest),none,none] S=.ok (.str (WT rest)) S:=BK (v_var rfl) (qH (VJ aj)) qK (QH (by omega))
 have bad:∀ {η:Sg},exec (Mn (n+1)) lM [some (.str t),none,none,none,none,none] S=.exc bt η S→gK (Mn (n+1)) lG [.str t] S=.exc bt S:=fun {η} e=>by
  obtain ⟨x,rfl,r⟩:=afw (M:=Mn (n+1)) (d:=lG) (xs:=[.str t]) (·=bt) rfl hS (by
   show Ends (exec (Mn (n+1)) lM [some (.str t),none,none,none,none,none] (S++[])) _
   rw [List.append_nil,e]
   exact ⟨bt,_,[],by rw [List.append_nil],fun ns vs e=>(by cases e),rfl⟩)
  exact r
 have rs:∀ η,exec (Mn (n+1)) (.cons (.raise "BadText" .nil) .nil) η S=.exc bt η S:=fun η=>cA (by simp only [aP,evs,Res.out,ig,List.length_nil,Nat.zero_le,if_true];rfl)
 by_cases c0:br=""
 ·rw [if_pos c0]
  exact bad (aq z0 (cA (cQ _ (O3 (aK (v_var rfl) aj (eqZ.trans (congrArg some (decide_eq_true c0))))) (rs _))))
 rw [if_neg c0]
 have o0:ev (Mn (n+1)) (.cmp .Eq (.var 2) (.cst (.str ""))) [some (.str t),some (.str wd),some (.str br),some (.str rest),none,none] S=.ok (.bl false) S:=aK (v_var rfl) aj (eqZ.trans (congrArg some (decide_eq_false c0)))
 by_cases c1:WT rest=")"
 ·rw [if_pos c1]
  have z1:aP (Mn (n+1)) (.ite (.bor (.cmp .Eq (.var 2) (.cst (.str ""))) (.cmp .NotEq (.Cz (.var 3) (.some (.neg (.cst (.int 1)))) .none) (.cst (.str ")")))) (.cons (.raise "BadText" .nil) .nil) .nil) [some (.str t),some (.str wd),some (.str br),some (.str rest),none,none] S=.nx [some (.str t),some (.str wd),some (.str br),some (.str rest),none,none] S:=
   bD _ (t8 o0 (aK sl aj (neZ.trans (congrArg some (by rw [decide_eq_true c1];rfl))))) aM
  have z2:aP (Mn (n+1)) (.asg (.nm 4) (.Cz (.var 3) .none (.some (.neg (.cst (.int 1)))))) [some (.str t),some (.str wd),some (.str br),some (.str rest),none,none] S=.nx [some (.str t),some (.str wd),some (.str br),some (.str rest),some (.str (fj rest)),none] S:=
   bz _ _ (BK (v_var rfl) qK (qH (VJ aj)) (QH (by omega))) rfl
  have hi:(fj rest).length≤rest.length:=DG _ _ _
  by_cases c2:fj rest=""
  ·rw [if_pos c2]
   show gK (Mn (n+1)) lG [.str t] S=.ok (.val (.tup [.str wd,.tup []])) S
   refine dh (T:=[]) rfl ?_ hS (by simp only [Vl.nr,dH,Bool.and_self])
   show exec (Mn (n+1)) lM [some (.str t),none,none,none,none,none] S=_
   rw [List.append_nil]
   exact aq z0 (aq z1 (aq z2 (bA (dJ _ _ (iK (aa (v_var rfl) (aa (rM (aK (v_var rfl) aj (neZ.trans (congrArg some (by rw [decide_eq_true c2];rfl)))) (iK az (show 0≤1000000 by decide))) az)) (show 2≤1000000 by decide))))))
  ·rw [if_neg c2]
   have cnd:ev (Mn (n+1)) (.cmp .NotEq (.var 4) (.cst (.str ""))) [some (.str t),some (.str wd),some (.str br),some (.str rest),some (.str (fj rest)),none] S=.ok (.bl true) S:=aK (v_var rfl) aj (neZ.trans (congrArg some (by rw [decide_eq_false c2];rfl)))
   have hl:=PyProof.Rows.split_le (fj rest) ","
   have qP:pC (Mn (n+1)) (.sq (.inl (.split (.var 4) (.cst (.str ","))))) [some (.str t),some (.str wd),some (.str br),some (.str rest),some (.str (fj rest)),none] S=.ok ([],(Txt.split (fj rest) ",").map .str) S:=iG (dw (yC (v_var rfl) aj (by decide) (by omega))) rfl
   have q:d9 (Mn (n+1)) fG [some (.str t),some (.str wd),some (.str br),some (.str rest),some (.str (fj rest)),none] S=match Yr (Txt.split (fj rest) ",") with | some vs=>.ok (.lst (vs.map .int)) S | none=>.exc bt S:=by
    have cx:=Q9 n hS (some (.str t)) (some (.str wd)) (some (.str br)) (some (.str rest)) (some (.str (fj rest))) none (Txt.split (fj rest) ",") [] (fun w hw=>by have:=zb hw;omega) (by simp only [List.length_nil];omega)
    unfold fG
    simp only [d9]
    rw [qP]
    show (m7 (stM n [some (.str t),some (.str wd),some (.str br),some (.str rest),some (.str (fj rest)),none]) [] ((Txt.split (fj rest) ",").map .str) [] S).bind (fun ys S2=>(Res.ok (Ob.lst ys) S2:Res Ob))=_
    rw [List.map_nil] at cx
    rw [cx]
    cases Yr (Txt.split (fj rest) ",")<;>rfl
   cases er:Yr (Txt.split (fj rest) ",") with
   | none=>
    rw [er] at q
    simp only [Option.map_none]
    have qe:ev (Mn (n+1)) (.b1 .tuple (.inl fG)) [some (.str t),some (.str wd),some (.str br),some (.str rest),some (.str (fj rest)),none] S=.exc bt S:=by simp only [ev,q,Res.bind]
    have qi:ev (Mn (n+1)) (.ite (.cmp .NotEq (.var 4) (.cst (.str ""))) (.b1 .tuple (.inl fG)) (.tup .nil)) [some (.str t),some (.str wd),some (.str br),some (.str rest),some (.str (fj rest)),none] S=.exc bt S:=by
     simp only [ev] at cnd qe ⊢
     rw [cnd]
     simp only [Res.bind]
     simp only [Res.bind] at qe
     exact qe
    refine bad (η:=[some (.str t),some (.str wd),some (.str br),some (.str rest),some (.str (fj rest)),none]) (aq z0 (aq z1 (aq z2 (cA ?_))))
    have qv:evs (Mn (n+1)) (.cons (.var 1) (.cons (.ite (.cmp .NotEq (.var 4) (.cst (.str ""))) (.b1 .tuple (.inl fG)) (.tup .nil)) .nil)) [some (.str t),some (.str wd),some (.str br),some (.str rest),some (.str (fj rest)),none] S=.exc bt S:=by
     have h1:ev (Mn (n+1)) (.var 1) [some (.str t),some (.str wd),some (.str br),some (.str rest),some (.str (fj rest)),none] S=.ok (.str wd) S:=v_var rfl
     simp only [evs]
     rw [h1]
     simp only [Res.bind]
     rw [qi]
    have qt:ev (Mn (n+1)) (.tup (.cons (.var 1) (.cons (.ite (.cmp .NotEq (.var 4) (.cst (.str ""))) (.b1 .tuple (.inl fG)) (.tup .nil)) .nil))) [some (.str t),some (.str wd),some (.str br),some (.str rest),some (.str (fj rest)),none] S=.exc bt S:=by
     rw [show ∀ es η (S:Hs),ev (Mn (n+1)) (.tup es) η S=(evs (Mn (n+1)) es η S).bind _ from fun _ _ _=>by simp only [ev];rfl,qv];rfl
    rw [show ∀ e η (S:Hs),aP (Mn (n+1)) (.ret e) η S=(ev (Mn (n+1)) e η S).out η _ from fun _ _ _=>by simp only [aP];rfl,qt];rfl
   | some vs=>
    rw [er] at q
    simp only [Option.map_some]
    refine dh (T:=[]) rfl ?_ hS (by simp only [Vl.nr,dH,dW,Bool.and_self])
    show exec (Mn (n+1)) lM [some (.str t),none,none,none,none,none] S=_
    rw [List.append_nil]
    exact aq z0 (aq z1 (aq z2 (bA (dJ _ _ (iK (aa (v_var rfl) (aa (lW cnd (dG (dw q) rfl)) az)) (show 2≤1000000 by decide))))))
 ·rw [if_neg c1]
  exact bad (aq z0 (cA (cQ _ (t8 o0 (aK sl aj (neZ.trans (congrArg some (by rw [decide_eq_false c1];rfl))))) (rs _))))
end K04
namespace K04
open PySem L2 Oz
def Yp (w:Str):Option ((Str × Int) ⊕ (Str × List Int)):=
 if (Txt.partition w "=").2.1="=" then (rm (Txt.partition w "=").2.2).map fun v=>.inl ((Txt.partition w "=").1,v)
 else if (Txt.partition w ":").2.1=":" then (ri (Txt.partition w ":").2.2).map .inr else none
def Io:List Str→cY→Its→Option (cY × Its)
 | [],N,I=>some (N,I)
 | w::ws,N,I=>match Yp w with
  | some (.inl p)=>Io ws (N++[p]) I
  | some (.inr q)=>Io ws N (I++[q])
  | none=>none
abbrev sw (t:Str) (S:Hs) (a3 a4 a5 a6 a7 a8 a9 a10:Option Vl):Sg:=[some (.str t),some (.ref S.length),some (.ref (S.length+1)),a3,a4,a5,a6,a7,a8,a9,a10]
abbrev H2 (S:Hs) (N:cY) (I:Its):Hs:=S++[.lst (valN N),.lst (aY I)]
theorem afc {S:Hs} (hS:NR S) (N:cY) (I:Its):NR (H2 S N I):=nr2 hS (by simp only [Ob.nr,Ou]) (by simp only [Ob.nr,qQ])
theorem aeO (S:Hs) (N:cY) (I:Its):pZ (H2 S N I) (.ref S.length)=some S.length:=by simp only [pZ,g0]
theorem afy (S:Hs) (N:cY) (I:Its):pZ (H2 S N I) (.ref (S.length+1))=some (S.length+1):=by simp only [pZ,g1]
theorem Xy (N:cY) (p:Str × Int):valN (N++[p])=valN N++[.tup [.str p.1,.int p.2]]:=by simp [valN]
theorem Sw (I:Its) (p:Str × List Int):aY (I++[p])=aY I++[.tup [.str p.1,.tup (p.2.map .int)]]:=by simp [aY]
theorem G8 {M:aF} {c:C} {η η1:Sg} {S S1:Hs} (h:aP M c η S=.nx η1 S1):exec M (.cons c .nil) η S=.nx η1 S1:=aq h aM
theorem aa6 (n:Nat) (η:Sg) (S:Hs):exec (Mn n) (.cons (.raise "BadText" .nil) .nil) η S=.exc bt η S:=cA (by simp only [aP,evs,Res.out,ig,List.length_nil,Nat.zero_le,if_true];rfl)
theorem aeC (n:Nat) {t w:Str} (hw:w.length≤1000) {N:cY} {I:Its} (hN:N.length≤5000) (hI:I.length≤5000) {S:Hs} (hS:NR S) (a4 a5 a6 a7 a8 a9:Option Vl):∃ b4 b5 b6 b7 b8 b9,
  exec (Mn (n+2)) cG (sw t S (some (.str w)) a4 a5 a6 a7 a8 a9 none) (H2 S N I)=match Yp w with
   | some (.inl p)=>.nx (sw t S (some (.str w)) b4 b5 b6 b7 b8 b9 none) (H2 S (N++[p]) I)
   | some (.inr q)=>.nx (sw t S (some (.str w)) b4 b5 b6 b7 b8 b9 none) (H2 S N (I++[q]))
   | none=>.exc bt (sw t S (some (.str w)) b4 b5 b6 b7 b8 b9 none) (H2 S N I):=by
 have hH:=afc hS N I
 have p1:=vH w "=" (by decide)
 have p2:=vH w ":" (by decide)
 unfold Yp
 generalize hP:Txt.partition w "="=P at p1 ⊢
 obtain ⟨nm,sg,rst⟩:=P
 generalize hQ:Txt.partition w ":"=Q at p2 ⊢
 obtain ⟨nu,co,Rb⟩:=Q
 simp only at p1 p2 ⊢
 have z0:aP (Mn (n+2)) (.asg (.tp (.cons (.nm 4) (.cons (.nm 5) (.cons (.nm 6) .nil)))) (.tm .part (.var 3) (.cst (.str "=")))) (sw t S (some (.str w)) a4 a5 a6 a7 a8 a9 none) (H2 S N I)=.nx (sw t S (some (.str w)) (some (.str nm)) (some (.str sg)) (some (.str rst)) a7 a8 a9 none) (H2 S N I):=by
  refine bz _ _ (Tf (v_var rfl) aj (by decide) (by omega)) ?_
  rw [hP];rfl
 by_cases c:sg="="
 ·rw [if_pos c]
  have tst:ev (Mn (n+2)) (.cmp .Eq (.var 5) (.cst (.str "="))) (sw t S (some (.str w)) (some (.str nm)) (some (.str sg)) (some (.str rst)) a7 a8 a9 none) (H2 S N I)=.ok (.bl true) (H2 S N I):=aK (v_var rfl) aj (eqZ.trans (congrArg some (decide_eq_true c)))
  have hc:=Wz (n+1) (w:=rst) (by omega) hH
  cases er:rm rst with
  | none=>
   rw [er] at hc
   refine ⟨some (.str nm),some (.str sg),some (.str rst),a7,a8,a9,?_⟩
   show exec (Mn (n+2)) cG (sw t S (some (.str w)) a4 a5 a6 a7 a8 a9 none) (H2 S N I)=.exc bt _ _
   refine aq z0 (cA (cQ _ tst (cA (aa4 ?_))))
   have hx:=yd (M:=Mn (n+2)) (es:=.cons (.var 6) .nil) (η:=sw t S (some (.str w)) (some (.str nm)) (some (.str sg)) (some (.str rst)) a7 a8 a9 none) (aa (v_var rfl) az) hc
   have h1:ev (Mn (n+2)) (.var 1) (sw t S (some (.str w)) (some (.str nm)) (some (.str sg)) (some (.str rst)) a7 a8 a9 none) (H2 S N I)=.ok (.ref S.length) (H2 S N I):=v_var rfl
   have h4:ev (Mn (n+2)) (.var 4) (sw t S (some (.str w)) (some (.str nm)) (some (.str sg)) (some (.str rst)) a7 a8 a9 none) (H2 S N I)=.ok (.str nm) (H2 S N I):=v_var rfl
   have qv:evs (Mn (n+2)) (.cons (.var 4) (.cons (.call "read_mark" (.cons (.var 6) .nil)) .nil)) (sw t S (some (.str w)) (some (.str nm)) (some (.str sg)) (some (.str rst)) a7 a8 a9 none) (H2 S N I)=.exc bt (H2 S N I):=by
    simp only [evs];rw [h4];simp only [Res.bind];rw [hx]
   have qt:ev (Mn (n+2)) (.tup (.cons (.var 4) (.cons (.call "read_mark" (.cons (.var 6) .nil)) .nil))) (sw t S (some (.str w)) (some (.str nm)) (some (.str sg)) (some (.str rst)) a7 a8 a9 none) (H2 S N I)=.exc bt (H2 S N I):=by
    rw [show ∀ es η (S:Hs),ev (Mn (n+2)) (.tup es) η S=(evs (Mn (n+2)) es η S).bind _ from fun _ _ _=>by simp only [ev];rfl,qv];rfl
   have qs:evs (Mn (n+2)) (.cons (.tup (.cons (.var 4) (.cons (.call "read_mark" (.cons (.var 6) .nil)) .nil))) .nil) (sw t S (some (.str w)) (some (.str nm)) (some (.str sg)) (some (.str rst)) a7 a8 a9 none) (H2 S N I)=.exc bt (H2 S N I):=by
    rw [show ∀ e η (S:Hs),evs (Mn (n+2)) (.cons e .nil) η S=(ev (Mn (n+2)) e η S).bind _ from fun _ _ _=>by simp only [evs];rfl,qt];rfl
   rw [show ∀ m a es η (S:Hs),ev (Mn (n+2)) (.mut m a es) η S=(ev (Mn (n+2)) a η S).bind _ from fun _ _ _ _ _=>by simp only [ev];rfl,h1]
   simp only [Res.bind]
   rw [aeO]
   simp only
   rw [qs]
  | some v=>
   rw [er] at hc
   refine ⟨some (.str nm),some (.str sg),some (.str rst),a7,a8,a9,?_⟩
   show exec (Mn (n+2)) cG (sw t S (some (.str w)) a4 a5 a6 a7 a8 a9 none) (H2 S N I)=.nx (sw t S (some (.str w)) (some (.str nm)) (some (.str sg)) (some (.str rst)) a7 a8 a9 none) (H2 S (N++[(nm,v)]) I)
   refine aq z0 (G8 (cQ _ tst (G8 ?_)))
   refine (M9 _ _ (Bt (k:=S.length) (ys:=valN N) (v_var rfl) (aeO _ _ _) (aa (iK (aa (v_var rfl) (aa (bJ (aa (v_var rfl) az) hc) az)) (show 2≤1000000 by decide)) az) g0 (kh (by rw [jK];omega)))).trans ?_
   rw [s0,H2,Xy]
   rfl
 ·rw [if_neg c]
  have tst:ev (Mn (n+2)) (.cmp .Eq (.var 5) (.cst (.str "="))) (sw t S (some (.str w)) (some (.str nm)) (some (.str sg)) (some (.str rst)) a7 a8 a9 none) (H2 S N I)=.ok (.bl false) (H2 S N I):=aK (v_var rfl) aj (eqZ.trans (congrArg some (decide_eq_false c)))
  have z1:aP (Mn (n+2)) (.asg (.tp (.cons (.nm 7) (.cons (.nm 8) (.cons (.nm 9) .nil)))) (.tm .part (.var 3) (.cst (.str ":")))) (sw t S (some (.str w)) (some (.str nm)) (some (.str sg)) (some (.str rst)) a7 a8 a9 none) (H2 S N I)=.nx (sw t S (some (.str w)) (some (.str nm)) (some (.str sg)) (some (.str rst)) (some (.str nu)) (some (.str co)) (some (.str Rb)) none) (H2 S N I):=by
   refine bz _ _ (Tf (v_var rfl) aj (by decide) (by omega)) ?_
   rw [hQ];rfl
  by_cases d:co=":"
  ·rw [if_pos d]
   have z2:aP (Mn (n+2)) (.ite (.cmp .NotEq (.var 8) (.cst (.str ":"))) (.cons (.raise "BadText" .nil) .nil) .nil) (sw t S (some (.str w)) (some (.str nm)) (some (.str sg)) (some (.str rst)) (some (.str nu)) (some (.str co)) (some (.str Rb)) none) (H2 S N I)=.nx (sw t S (some (.str w)) (some (.str nm)) (some (.str sg)) (some (.str rst)) (some (.str nu)) (some (.str co)) (some (.str Rb)) none) (H2 S N I):=
    bD _ (aK (v_var rfl) aj (neZ.trans (congrArg some (by rw [decide_eq_true d];rfl)))) aM
   have hc:=ad3 n (t:=Rb) (by omega) hH
   cases er:ri Rb with
   | none=>
    rw [er] at hc
    refine ⟨some (.str nm),some (.str sg),some (.str rst),some (.str nu),some (.str co),some (.str Rb),?_⟩
    show exec (Mn (n+2)) cG (sw t S (some (.str w)) a4 a5 a6 a7 a8 a9 none) (H2 S N I)=.exc bt _ _
    refine aq z0 (cA (bD _ tst (aq z1 (aq z2 (cA (aa4 ?_))))))
    have hx:=yd (M:=Mn (n+2)) (es:=.cons (.var 9) .nil) (η:=sw t S (some (.str w)) (some (.str nm)) (some (.str sg)) (some (.str rst)) (some (.str nu)) (some (.str co)) (some (.str Rb)) none) (aa (v_var rfl) az) hc
    have h1:ev (Mn (n+2)) (.var 2) (sw t S (some (.str w)) (some (.str nm)) (some (.str sg)) (some (.str rst)) (some (.str nu)) (some (.str co)) (some (.str Rb)) none) (H2 S N I)=.ok (.ref (S.length+1)) (H2 S N I):=v_var rfl
    have qs:evs (Mn (n+2)) (.cons (.call "read_item" (.cons (.var 9) .nil)) .nil) (sw t S (some (.str w)) (some (.str nm)) (some (.str sg)) (some (.str rst)) (some (.str nu)) (some (.str co)) (some (.str Rb)) none) (H2 S N I)=.exc bt (H2 S N I):=by
     rw [show ∀ e η (S:Hs),evs (Mn (n+2)) (.cons e .nil) η S=(ev (Mn (n+2)) e η S).bind _ from fun _ _ _=>by simp only [evs];rfl,hx];rfl
    rw [show ∀ m a es η (S:Hs),ev (Mn (n+2)) (.mut m a es) η S=(ev (Mn (n+2)) a η S).bind _ from fun _ _ _ _ _=>by simp only [ev];rfl,h1]
    simp only [Res.bind]
    rw [afy]
    simp only
    rw [qs]
   | some q=>
    rw [er] at hc
    refine ⟨some (.str nm),some (.str sg),some (.str rst),some (.str nu),some (.str co),some (.str Rb),?_⟩
    show exec (Mn (n+2)) cG (sw t S (some (.str w)) a4 a5 a6 a7 a8 a9 none) (H2 S N I)=.nx (sw t S (some (.str w)) (some (.str nm)) (some (.str sg)) (some (.str rst)) (some (.str nu)) (some (.str co)) (some (.str Rb)) none) (H2 S N (I++[q]))
    refine aq z0 (G8 (bD _ tst (aq z1 (aq z2 (G8 ?_)))))
    refine (M9 _ _ (Bt (k:=S.length+1) (ys:=aY I) (v_var rfl) (afy _ _ _) (aa (bJ (aa (v_var rfl) az) hc) az) g1 (kh (by rw [fV];omega)))).trans ?_
    rw [s1,H2,Sw]
    rfl
  ·rw [if_neg d]
   refine ⟨some (.str nm),some (.str sg),some (.str rst),some (.str nu),some (.str co),some (.str Rb),?_⟩
   show exec (Mn (n+2)) cG (sw t S (some (.str w)) a4 a5 a6 a7 a8 a9 none) (H2 S N I)=.exc bt _ _
   refine (aq z0 (cA (bD _ tst (aq z1 (cA (cQ _ (aK (v_var rfl) aj (neZ.trans (congrArg some (by rw [decide_eq_false d];rfl)))) (aa6 _ _ _)))))))
theorem MF (n:Nat) {t:Str} {S:Hs} (hS:NR S):∀ (ws:List Str) (N:cY) (I:Its),(∀ w∈ws,w.length≤1000)→N.length+ws.length≤5000→I.length+ws.length≤5000→∀ a3 a4 a5 a6 a7 a8 a9:Option Vl,∃ b3 b4 b5 b6 b7 b8 b9,
  match Io ws N I with
   | some p=>forL (fun η1 S2=>exec (Mn (n+2)) cG η1 S2) (.nm 3) [] (ws.map .str) (sw t S a3 a4 a5 a6 a7 a8 a9 none) (H2 S N I)=.nx (sw t S b3 b4 b5 b6 b7 b8 b9 none) (H2 S p.1 p.2)
   | none=>∃ N' I',forL (fun η1 S2=>exec (Mn (n+2)) cG η1 S2) (.nm 3) [] (ws.map .str) (sw t S a3 a4 a5 a6 a7 a8 a9 none) (H2 S N I)=.exc bt (sw t S b3 b4 b5 b6 b7 b8 b9 none) (H2 S N' I')
 | [],N,I,_,_,_,a3,a4,a5,a6,a7,a8,a9=>⟨a3,a4,a5,a6,a7,a8,a9,by
  simp only [Io,List.map_nil,forL]
  rw [if_pos (aU _)]⟩
 | w::ws,N,I,hw,hN,hI,a3,a4,a5,a6,a7,a8,a9=>by
  simp only [List.length_cons] at hN hI
  obtain ⟨c4,c5,c6,c7,c8,c9,st⟩:=aeC n (t:=t) (hw w List.mem_cons_self) (N:=N) (I:=I) (by omega) (by omega) hS a4 a5 a6 a7 a8 a9
  have un:forL (fun η1 S2=>exec (Mn (n+2)) cG η1 S2) (.nm 3) [] ((w::ws).map .str) (sw t S a3 a4 a5 a6 a7 a8 a9 none) (H2 S N I)=match exec (Mn (n+2)) cG (sw t S (some (.str w)) a4 a5 a6 a7 a8 a9 none) (H2 S N I) with
    | .nx η2 S2=>forL (fun η1 S2=>exec (Mn (n+2)) cG η1 S2) (.nm 3) [] (ws.map .str) η2 S2
    | .cnt η2 S2=>forL (fun η1 S2=>exec (Mn (n+2)) cG η1 S2) (.nm 3) [] (ws.map .str) η2 S2
    | .brk η2 S2=>.nx η2 S2
    | o=>o:=by
   rw [List.map_cons]
   rw [forL]
   rw [if_pos (aU _)]
   show (match exec (Mn (n+2)) cG (sw t S (some (.str w)) a4 a5 a6 a7 a8 a9 none) (H2 S N I) with | .nx η2 S2=>_ | .cnt η2 S2=>_ | .brk η2 S2=>_ | o=>o)=_
   rfl
  rw [un]
  simp only [Io]
  cases e:Yp w with
  | none=>
   rw [e] at st
   rw [st]
   exact ⟨_,_,_,_,_,_,_,N,I,rfl⟩
  | some r=>
   cases r with
   | inl p=>
    rw [e] at st
    rw [st]
    exact MF n hS ws (N++[p]) I (fun z hz=>hw z (List.mem_cons_of_mem _ hz)) (by simp;omega) (by omega) _ _ _ _ _ _ _
   | inr q=>
    rw [e] at st
    rw [st]
    exact MF n hS ws N (I++[q]) (fun z hz=>hw z (List.mem_cons_of_mem _ hz)) (by omega) (by simp;omega) _ _ _ _ _ _ _
end K04
namespace K04
open PySem L2 Oz
theorem Nu {z:Str} {lo hi:Int} (h:isW z lo hi=true):lo≤z.length∧(z.length:Int)≤hi∧∀ c∈z.cps.toList,c∈abc.cps.toList:=by
 unfold isW age at h
 rw [Bool.and_eq_true,Bool.and_eq_true,decide_eq_true_eq,decide_eq_true_eq,List.all_eq_true] at h
 exact ⟨h.1.1,h.1.2,fun c hc=>of_decide_eq_true (h.2 c hc)⟩
theorem af9:∀ c∈abc.cps.toList,c<0x110000:=by decide
theorem aeJ {many:Nat} {q:Str × List Int} (h:dY many q=true):Item many q:=by
 have hs:=Du h
 refine ⟨?_,hs.1,hs.2,?_⟩
 ·unfold dY nj at h
  rw [Bool.and_eq_true] at h
  have h1:=h.1
  split at h1
  ·rename_i e;rw [e];exact ⟨by decide,by decide⟩
  ·rw [Bool.and_eq_true] at h1
   obtain ⟨_,h2,h3⟩:=Nu h1.1
   exact ⟨by omega,fun c hc=>af9 c (h3 c hc)⟩
 ·unfold dY at h
  rw [Bool.and_eq_true] at h
  exact h.1
theorem aam {N:cY} {I:Its} (hv:Vd N I none):Raw N I∧I.length≤200∧(ord N I).length=I.length:=by
 cases hv with
 | ok hN hI hT hf h2 Qw=>
  refine ⟨⟨hf,fun p hp=> ?_,fun q hq=>aeJ (hI q hq)⟩,h2,Qw⟩
  obtain ⟨i,hi⟩:=List.getElem?_of_mem hp
  have hl:=(List.getElem?_eq_some_iff.mp hi).1
  obtain ⟨h1,h2,h3⟩:=Nu (Ec hi (hN i hl)).1
  exact ⟨by omega,by omega,h3⟩
theorem af2 {N:cY} {I:Its} (h:Raw N I) (Yw:I.length≤200) (hf:(ord N I).length=I.length):Vd N I none:=by
 refine .ok (fun i hi=> ?_) (fun q hq=> ?_) ?_ h.fit Yw hf
 ·have e:=List.getElem?_eq_getElem hi
  unfold jc
  rw [e]
  simp only
  rw [abY (h.hw _ (List.getElem_mem hi)),Bool.true_and,decide_eq_true_eq]
  exact ux h.fit.nd (by rw [List.getElem?_map,e];rfl)
 ·unfold dY
  rw [(h.hi q hq).k,Bool.true_and]
  exact List.all_eq_true.mpr fun t ht=>vB.mpr ((h.hi q hq).t t ht)
 ·exact List.all_eq_true.mpr fun p hp=>vB.mpr (h.fit.ht p hp)
theorem yW {ld:cY} {it:Its} {S:Hs} {m:Str} (hm:((["leads","spots"]:List Str).contains m)=false):Oz.lF S (vL ld it) "Web" m=true:=by
 unfold Oz.lF
 rw [jm]
 simp only [hm,decide_true];rfl
theorem W7 (n:Nat) {ld:cY} {it:Its} {S:Hs} (h:Raw ld it) (hS:NR S):(Mn (n+3)).cal (dot "Web" "__repr__") [vL ld it] S=.ok (.val (.str (txt ld it))) S:=by
 rw [yI]
 refine dh (T:=[]) rfl ?_ hS (by simp only [Vl.nr])
 show exec (Mn (n+2)) zF [some (vL ld it)] S=_
 rw [List.append_nil]
 exact bA (dJ _ _ (dG (bJ (r:=.val (.str (txt ld it))) (aa (DK (v_var rfl) (jm S _ _) vD) (aa (DK (v_var rfl) (jm S _ _) vq) az)) (Rz n h hS)) rfl))
section
variable {M:aF} {bd hd:Cs} {l:List Str} {η η1:Sg} {S S1:Hs} {er:Xc} {o:Out}
theorem aet (h:exec M bd η S=.nx η1 S1):aP M (.TY bd l hd) η S=.nx η1 S1:=by simp only [aP,h]
theorem ad2 (h:exec M bd η S=.exc er η1 S1) (hs:Gi M.sub er.c l=some true) (hh:exec M hd η1 S1=o):aP M (.TY bd l hd) η S=o:=by simp only [aP,h,hs,hh]
end
theorem adt (n:Nat) {c:Str} (h:c="BadName"∨c="BadWeb"):Gi (Mn n).sub c ["BadName","BadWeb"]=some true:=by
 rcases h with rfl | rfl
 ·unfold Gi Gi Gi
  rw [sbT (d:="BadName") (c:="BadName") (w:=true) (by decide+kernel),sbT (d:="BadName") (c:="BadWeb") (w:=false) (by decide+kernel)]
  rfl
 ·unfold Gi Gi Gi
  rw [sbT (d:="BadWeb") (c:="BadName") (w:=false) (by decide+kernel),sbT (d:="BadWeb") (c:="BadWeb") (w:=true) (by decide+kernel)]
  rfl
def wordsOf (t:Str):List Str:=if t="empty" then [] else Txt.split t " "
theorem words_le {t w:Str} (h:w∈wordsOf t):w.length≤t.length:=by
 unfold wordsOf at h
 split at h
 ·cases h
 ·exact zb h
theorem Xr (t:Str):(wordsOf t).length≤t.length+2:=by
 unfold wordsOf
 split
 ·exact Nat.zero_le _
 ·have:=PyProof.Rows.split_le t " "
  omega
theorem aco {w:Str}:(∀ {p:Str × Int},Yp w=some (.inl p)→p.1.length≤w.length)∧∀ {q:Str × List Int},Yp w=some (.inr q)→q.1.length≤w.length∧q.2.length≤w.length+2:=by
 have p1:=vH w "=" (by decide)
 have p2:=vH w ":" (by decide)
 unfold Yp
 constructor
 ·intro p h
  split at h
  ·obtain ⟨v,_,e⟩:=Option.map_eq_some_iff.mp h
   cases e
   exact p1.1
  ·split at h
   ·obtain ⟨v,_,e⟩:=Option.map_eq_some_iff.mp h
    cases e
   ·cases h
 ·intro q h
  split at h
  ·obtain ⟨v,_,e⟩:=Option.map_eq_some_iff.mp h
   cases e
  ·split at h
   ·obtain ⟨v,hv,e⟩:=Option.map_eq_some_iff.mp h
    cases e
    have:=ajS hv
    omega
   ·cases h
theorem Uv {b:Nat}:∀ {ws:List Str} {N:cY} {I:Its} {p:cY × Its},(∀ w∈ws,w.length≤b)→(∀ p∈N,p.1.length≤b)→(∀ q∈I,q.1.length≤b∧q.2.length≤b+2)→Io ws N I=some p→
  (∀ q∈p.1,q.1.length≤b)∧(∀ q∈p.2,q.1.length≤b∧q.2.length≤b+2)∧p.1.length≤N.length+ws.length∧p.2.length≤I.length+ws.length
 | [],N,I,p,_,hN,hI,h=>by
  simp only [Io,Option.some.injEq] at h
  subst h
  exact ⟨hN,hI,Nat.le_refl _,Nat.le_refl _⟩
 | w::ws,N,I,p,hw,hN,hI,h=>by
  simp only [Io] at h
  have hw0:=hw w List.mem_cons_self
  split at h
  ·rename_i q e
   have:=aco.1 e
   obtain ⟨h1,h2,h3,h4⟩:=Uv (fun z hz=>hw z (List.mem_cons_of_mem _ hz)) (fun z hz=>by
    rcases List.mem_append.mp hz with hz | hz
    ·exact hN z hz
    ·rw [List.mem_singleton.mp hz];omega) hI h
   rw [List.length_append,List.length_singleton] at h3
   simp only [List.length_cons]
   exact ⟨h1,h2,by omega,by omega⟩
  ·rename_i q e
   have:=aco.2 e
   obtain ⟨h1,h2,h3,h4⟩:=Uv (fun z hz=>hw z (List.mem_cons_of_mem _ hz)) hN (fun z hz=>by
    rcases List.mem_append.mp hz with hz | hz
    ·exact hI z hz
    ·rw [List.mem_singleton.mp hz];omega) h
   rw [List.length_append,List.length_singleton] at h4
   simp only [List.length_cons]
   exact ⟨h1,h2,by omega,by omega⟩
  ·cases h
theorem aaZ (n:Nat) {t:Str} (ht:t.length≤990) {S:Hs} (hS:NR S) :
  (∃ N I,Io (wordsOf t) [] []=some (N,I)∧Vd N I none∧txt (eO N I) (jf N I)=t∧(Mn (n+4)).cal "read_web" [.str t] S=.ok (.val (vL (eO N I) (jf N I))) S)
  ∨((Mn (n+4)).cal "read_web" [.str t] S=.exc bt S∧∀ N I,Io (wordsOf t) [] []=some (N,I)→Vd N I none→txt (eO N I) (jf N I)≠t):=by
 rw [Hm]
 have hwl:=Xr t
 have bad:∀ {η:Sg} {T:Hs},exec (Mn (n+3)) FT [some (.str t),none,none,none,none,none,none,none,none,none,none] S=.exc bt η (S++T)→gK (Mn (n+3)) wH [.str t] S=.exc bt S:=fun {η T} e=>M8 rfl e hS fun ns vs e=>by cases e
 have z0:aP (Mn (n+3)) (.par 1 2 (.CG (.lst .nil)) (.CG (.lst .nil))) [some (.str t),none,none,none,none,none,none,none,none,none,none] S=.nx (sw t S none none none none none none none none) (H2 S [] []):=by
  refine (ajY (m9 (lL az (show 0≤1000000 by decide))) (m9 (lL az (show 0≤1000000 by decide)))).trans ?_
  simp only [List.length_append,List.length_singleton,List.append_assoc]
  rfl
 have qP:pC (Mn (n+3)) (.sq (.ite (.cmp .Eq (.var 0) (.cst (.str "empty"))) (.inl (.lst .nil)) (.inl (.split (.var 0) (.cst (.str " ")))))) (sw t S none none none none none none none none) (H2 S [] [])=.ok ([],(wordsOf t).map .str) (H2 S [] []):=by
  unfold wordsOf
  by_cases c:t="empty"
  ·rw [if_pos c]
   exact iG (lW (aK (v_var rfl) aj (eqZ.trans (congrArg some (decide_eq_true c)))) (dw (lL az (show 0≤1000000 by decide)))) rfl
  ·rw [if_neg c]
   exact iG (rM (aK (v_var rfl) aj (eqZ.trans (congrArg some (decide_eq_false c)))) (dw (yC (v_var rfl) aj (by decide) (by omega)))) rfl
 obtain ⟨b3,b4,b5,b6,b7,b8,b9,lp⟩:=MF (n+1) (t:=t) hS (wordsOf t) [] [] (fun w hw=>by have:=words_le hw;omega) (by simp only [List.length_nil];omega) (by simp only [List.length_nil];omega) none none none none none none none
 cases e:Io (wordsOf t) [] [] with
 | none=>
  rw [e] at lp
  obtain ⟨N',I',lp⟩:=lp
  refine .inr ⟨bad (T:=[.lst (valN N'),.lst (aY I')]) (aq z0 (cA (jJ _ _ _ qP lp))),fun N I h=>by cases h⟩
 | some p=>
  obtain ⟨N,I⟩:=p
  rw [e] at lp
  simp only at lp
  have zl:=jJ [] _ _ qP lp
  obtain ⟨l1,l2,l3,l4⟩:=Uv (b:=990) (fun w hw=>by have:=words_le hw;omega) (fun z hz=>by cases hz) (fun z hz=>by cases hz) e
  simp only [List.length_nil] at l1 l2 l3 l4
  have z:Sz N I:=⟨fun p hp=>by have:=l1 p hp;omega,by omega,fun p hp=>by have:=l2 p hp;omega,fun p hp=>by have:=l2 p hp;omega,by omega⟩
  have hH:=afc hS N I
  have qn:Sq (H2 S N I) (.ref S.length) (valN N):=ZX g0
  have qi:Sq (H2 S N I) (.ref (S.length+1)) (aY I):=ZX g1
  have args:evs (Mn (n+3)) (.cons (.var 1) (.cons (.var 2) .nil)) (sw t S b3 b4 b5 b6 b7 b8 b9 none) (H2 S N I)=.ok [.ref S.length,.ref (S.length+1)] (H2 S N I):=aa (v_var rfl) (aa (v_var rfl) az)
  by_cases hv:Vd N I none
  ·obtain ⟨hr,Yw,Qw⟩:=aam hv
   have akF:=Tc hr
   have hn:=afn n hr Yw Qw qn qi hH args
   have zt:aP (Mn (n+3)) (.TY tR ["BadName","BadWeb"] (.cons (.raise "BadText" .nil) .nil)) (sw t S b3 b4 b5 b6 b7 b8 b9 none) (H2 S N I)=.nx (sw t S b3 b4 b5 b6 b7 b8 b9 (some (vL (eO N I) (jf N I)))) (H2 S N I):=
    aet (G8 (bz _ _ (dw hn) rfl))
   have hre:ev (Mn (n+3)) (.K7 "Web" (.var 10)) (sw t S b3 b4 b5 b6 b7 b8 b9 (some (vL (eO N I) (jf N I)))) (H2 S N I)=.ok (.str (txt (eO N I) (jf N I))) (H2 S N I):=WM (v_var rfl) (yW (by decide)) (W7 n akF.raw hH)
   by_cases c:txt (eO N I) (jf N I)=t
   ·refine .inl ⟨N,I,rfl,hv,c,?_⟩
    refine dh (T:=[.lst (valN N),.lst (aY I)]) rfl ?_ hS (Mp _ _)
    exact aq z0 (aq zl (aq zt (aq (bD _ (aK hre (v_var rfl) (neZ.trans (congrArg some (by rw [decide_eq_true c];rfl)))) aM) (bA (dJ _ _ (v_var rfl))))))
   ·refine .inr ⟨bad (T:=[.lst (valN N),.lst (aY I)]) (aq z0 (aq zl (aq zt (cA (cQ _ (aK hre (v_var rfl) (neZ.trans (congrArg some (by rw [decide_eq_false c];rfl)))) (aa6 _ _ _)))))),fun N' I' h _=>by cases h;exact c⟩
  ·obtain ⟨v,hvd⟩:=ajT z
   cases v with
   | none=>exact absurd hvd hv
   | some cx=>
    obtain ⟨c,x⟩:=cx
    have hc:c="BadName"∨c="BadWeb":=by cases hvd<;>first | exact .inl rfl | exact .inr rfl
    have hx:x.nr=true:=by cases hvd<;>simp only [Vl.nr]
    have hi:=adI n z hvd qn qi hH
    have hn:d9 (Mn (n+3)) (.new "Web" (.cons (.var 1) (.cons (.var 2) .nil))) (sw t S b3 b4 b5 b6 b7 b8 b9 none) (H2 S N I)=.exc ⟨c,some ([abI c],[x])⟩ (H2 S N I):=af4 args hH hi fun ns vs e=>by cases e;simp [dH,hx]
    have zt:aP (Mn (n+3)) (.TY tR ["BadName","BadWeb"] (.cons (.raise "BadText" .nil) .nil)) (sw t S b3 b4 b5 b6 b7 b8 b9 none) (H2 S N I)=.exc bt (sw t S b3 b4 b5 b6 b7 b8 b9 none) (H2 S N I):=
     ad2 (cA (by simp only [aP];rw [agl hn];rfl)) (adt _ hc) (aa6 _ _ _)
    exact .inr ⟨bad (T:=[.lst (valN N),.lst (aY I)]) (aq z0 (aq zl (cA zt))),fun N' I' h k=>by cases h;exact absurd k hv⟩
end K04
namespace K04
open PySem L2 Oz
def sY (s:Nat) (z:Str):Prop:=s∉TL.tl z
theorem sY.app {s:Nat} {x y:Str} (h:sY s x) (k:sY s y):sY s (x++y):=by
 unfold sY at *
 rw [TL.tl_append,List.mem_append]
 rintro (c | c)
 ·exact h c
 ·exact k c
theorem ahr:∀ k∈List.range 15,rm (mk ((k:Int) - 1))=some ((k:Int) - 1)∧(1≤(mk ((k:Int) - 1)).length∧(mk ((k:Int) - 1)).length≤2)∧∀ s∈[32,61,58,40,44],s∉TL.tl (mk ((k:Int) - 1)):=by decide+kernel
theorem BW {t:Int} (h: -1≤t∧t≤13):rm (mk t)=some t∧(1≤(mk t).length∧(mk t).length≤2)∧∀ s∈[32,61,58,40,44],sY s (mk t):=by
 have:=ahr (t+1).toNat (List.mem_range.mpr (by omega))
 rw [show (((t+1).toNat:Nat):Int) - 1=t by omega] at this
 exact this
theorem ad5:∀ k∈List.range 15,(((toString ((k:Nat):Int):String):Str)).length≤2∧∀ s∈[32,61,58],s∉TL.tl ((toString ((k:Nat):Int):String):Str):=by decide+kernel
theorem Ol {t:Int} (h:0≤t∧t≤14):(((toString t:String):Str)).length≤2∧∀ s∈[32,61,58],sY s ((toString t:String):Str):=by
 have:=ad5 t.toNat (List.mem_range.mpr (by omega))
 rw [show ((t.toNat:Nat):Int)=t by omega] at this
 exact this
theorem aaD:∀ s∈[32,61,58,40,44],s∉abc.cps.toList:=by decide
theorem yL {z:Str} (h:∀ c∈z.cps.toList,c∈abc.cps.toList) {s:Nat} (hs:s∈[32,61,58,40,44]):sY s z:=fun c=>aaD s hs (h s c)
theorem Ms {many:Nat} {q:Str × List Int} (h:Item many q):∀ c∈q.1.cps.toList,c∈abc.cps.toList:=by
 have h1:=h.k
 unfold nj at h1
 split at h1
 ·rename_i e;rw [e];decide
 ·rw [Bool.and_eq_true] at h1
  exact (Nu h1.1).2.2
theorem Km {y:List Nat} {c:Nat}:∀ {ps:List (List Nat)},c∈TL.joinL y ps→c∈y∨∃ p∈ps,c∈p
 | [],h=>by simp [TL.joinL] at h
 | [p],h=>.inr ⟨p,List.mem_cons_self,h⟩
 | p::q::r,h=>by
  simp only [TL.joinL,List.mem_append] at h
  rcases h with h | h | h
  ·exact .inr ⟨p,List.mem_cons_self,h⟩
  ·exact .inl h
  ·rcases Km h with h | ⟨u,hu,h⟩
   ·exact .inl h
   ·exact .inr ⟨u,List.mem_cons_of_mem _ hu,h⟩
theorem YL {s:Nat} {y:Str} {ps:List Str} (hy:sY s y) (h:∀ p∈ps,sY s p):sY s (Txt.join y ps):=by
 unfold sY at *
 rw [TL.join_eq,TL.tl_join]
 intro c
 rcases Km c with c | ⟨p,hp,c⟩
 ·exact hy c
 ·obtain ⟨z,hz,rfl⟩:=List.mem_map.mp hp
  exact h z hz c
section
variable {ld:cY} {it:Its}
theorem t13 (h:Raw ld it) (i9:it.length≤13) {p:Str × Int} (hp:p∈ld): -1≤p.2∧p.2≤13:=by
 have:=h.fit.ht p hp
 omega
theorem i13 (h:Raw ld it) (i9:it.length≤13) {p:Str × List Int} (hp:p∈it):∀ t∈p.2,-1≤t∧t≤13:=fun t ht=>by
 have:=(h.hi p hp).t t ht
 omega
theorem aey {p:Str × Int} (h:yt p.1) (k: -1≤p.2∧p.2≤13):sY 32 (wN p):=((yL h.al (by simp)).app (show sY 32 ("=":Str) by unfold sY;decide)).app ((BW k).2.2 32 (by simp))
theorem O5 {p:Str × List Int} (k:∀ t∈p.2,-1≤t∧t≤13) {s:Nat} (hs:s∈[32,61,58,40]) (hc:sY s (",":Str)):sY s (inn p):=YL hc fun z hz=>by
 obtain ⟨t,ht,rfl⟩:=List.mem_map.mp hz
 exact (BW (k t ht)).2.2 s (by simp at hs ⊢;omega)
theorem VL {many:Nat} {p:Str × List Int} (h:Item many p) (k:∀ t∈p.2,-1≤t∧t≤13) {j:Int} (hj:0≤j∧j≤14):sY 32 (wI j p)∧sY 61 (wI j p):=
 ⟨(((((Ol hj).2 32 (by simp)).app (show sY 32 (":":Str) by unfold sY;decide)).app (yL (Ms h) (by simp))).app (show sY 32 ("(":Str) by unfold sY;decide)).app (O5 k (by simp) (by unfold sY;decide)) |>.app (show sY 32 (")":Str) by unfold sY;decide),
  (((((Ol hj).2 61 (by simp)).app (show sY 61 (":":Str) by unfold sY;decide)).app (yL (Ms h) (by simp))).app (show sY 61 ("(":Str) by unfold sY;decide)).app (O5 k (by simp) (by unfold sY;decide)) |>.app (show sY 61 (")":Str) by unfold sY;decide)⟩
theorem abn {p:Str × Int} (h:yt p.1) (k: -1≤p.2∧p.2≤13):Yp (wN p)=some (.inl p):=by
 unfold Yp wN
 rw [TL.partition_app (y:="=") (s:=61) (S:=[]) (by decide) (yL h.al (by simp):sY 61 p.1)]
 rw [if_pos rfl,(BW k).1]
 rfl
theorem aal {z:Str} {c:Nat}:WT (z++⟨#[c]⟩)=⟨#[c]⟩∧fj (z++⟨#[c]⟩)=z:=by
 have e:(z++(⟨#[c]⟩:Str)).cps.toList=z.cps.toList++[c]:=TL.tl_append z ⟨#[c]⟩
 have l:(z++(⟨#[c]⟩:Str)).length=z.length+1:=len_app _ _
 have hz:z.length=z.cps.toList.length:=rfl
 constructor
 ·refine TL.ext_tl ?_
  show (cutS _ _ _).cps.toList=_
  unfold cutS
  rw [l,e]
  show ((z.cps.toList++[c]).drop (HT.sIx (z.length+1) 0 (some (-1)))).take (HT.sIx (z.length+1) (z.length+1) none - HT.sIx (z.length+1) 0 (some (-1)))=[c]
  have:HT.sIx (z.length+1) 0 (some (-1))=z.length:=by unfold HT.sIx;simp;omega
  rw [this,HT.sIx_none,hz,List.drop_left]
  simp
 ·refine TL.ext_tl ?_
  show (cutS _ _ _).cps.toList=_
  unfold cutS
  rw [l,e]
  show ((z.cps.toList++[c]).drop (HT.sIx (z.length+1) 0 none)).take (HT.sIx (z.length+1) (z.length+1) (some (-1)) - HT.sIx (z.length+1) 0 none)=z.cps.toList
  have:HT.sIx (z.length+1) (z.length+1) (some (-1))=z.length:=by unfold HT.sIx;simp;omega
  rw [this,HT.sIx_none,hz,List.drop_zero,Nat.sub_zero,List.take_left]
theorem aa3:∀ {vs:List Int},(∀ t∈vs,-1≤t∧t≤13)→Yr (vs.map mk)=some vs
 | [],_=>rfl
 | v::vs,h=>by
  simp only [List.map_cons,Yr]
  rw [(BW (h v List.mem_cons_self)).1]
  simp only
  rw [aa3 fun t ht=>h t (List.mem_cons_of_mem _ ht)]
  rfl
theorem Xu {p:Str × List Int} (k:∀ t∈p.2,-1≤t∧t≤13) (Lh:p.2≠[]):Txt.split (inn p) ","=p.2.map mk:=
 TL.split_join (y:=",") (s:=44) (S:=[]) (by decide) (by decide+kernel) (fun e=>Lh (List.map_eq_nil_iff.mp e)) fun z hz=>by
  obtain ⟨t,ht,rfl⟩:=List.mem_map.mp hz
  exact (BW (k t ht)).2.2 44 (by simp)
theorem acY {many:Nat} {p:Str × List Int} (h:Item many p) (k:∀ t∈p.2,-1≤t∧t≤13):ri (p.1++"("++(inn p++")"))=some p:=by
 unfold ri
 rw [TL.partition_app (y:="(") (s:=40) (S:=[]) (by decide) (yL (Ms h) (by simp):sY 40 p.1)]
 simp only
 rw [if_neg (by decide)]
 have el:=aal (z:=inn p) (c:=41)
 have e41:(⟨#[41]⟩:Str)=")":=by decide
 rw [e41] at el
 rw [el.1,if_pos rfl,el.2]
 by_cases c:p.2=[]
 ·have e:inn p="":=by unfold inn;rw [c];decide+kernel
  rw [if_pos e]
  obtain ⟨a,b⟩:=p
  simp only at c
  subst c
  rfl
 ·have hs:=Xu k c
  rw [if_neg fun e=> ?_,hs,aa3 k]
  ·rfl
  ·rw [e] at hs
   have e2:Txt.split ("":Str) ","=[("":Str)]:=by decide+kernel
   rw [e2] at hs
   cases hp:p.2 with
   | nil=>exact c hp
   | cons t ts=>
    rw [hp] at hs
    simp only [List.map_cons,List.cons.injEq] at hs
    have:=(BW (k t (by rw [hp];exact List.mem_cons_self))).2.1.1
    rw [← hs.1] at this
    exact absurd this (by decide)
theorem abC {many:Nat} {p:Str × List Int} (h:Item many p) (k:∀ t∈p.2,-1≤t∧t≤13) {j:Int} (hj:0≤j∧j≤14):Yp (wI j p)=some (.inr p):=by
 unfold Yp
 rw [TL.partition_none (y:="=") (s:=61) (S:=[]) (by decide) (VL h k hj).2]
 rw [if_neg (show ¬ (Str.empty:Str)="=" by decide)]
 have e:wI j p=((toString j:String):Str)++":"++(p.1++"("++(inn p++")")):=by
  refine TL.ext_tl ?_
  unfold wI
  simp only [TL.tl_append,List.append_assoc]
 rw [e,TL.partition_app (y:=":") (s:=58) (S:=[]) (by decide) ((Ol hj).2 58 (by simp))]
 rw [if_pos rfl]
 simp only
 rw [acY h k]
 rfl
theorem Jo {many:Nat}:∀ {it:Its} {j:Int} {N:cY} {I:Its},(∀ p∈it,Item many p∧∀ t∈p.2,-1≤t∧t≤13)→0≤j→j+it.length≤14→Io (CP j it) N I=some (N,I++it)
 | [],_,_,_,_,_,_=>by simp only [CP,Io,List.append_nil]
 | p::it,j,N,I,h,h0,h1=>by
  simp only [List.length_cons] at h1
  simp only [CP,Io]
  rw [abC (h p List.mem_cons_self).1 (h p List.mem_cons_self).2 (by omega)]
  simp only
  rw [Jo (fun q hq=>h q (List.mem_cons_of_mem _ hq)) (by omega) (by omega),List.append_assoc]
  rfl
theorem JB {ws:List Str}:∀ {ld:cY} {N:cY} {I:Its},(∀ p∈ld,yt p.1∧-1≤p.2∧p.2≤13)→Io (ld.map wN++ws) N I=Io ws (N++ld) I
 | [],_,_,_=>by simp only [List.map_nil,List.nil_append,List.append_nil]
 | p::ld,N,I,h=>by
  simp only [List.map_cons,List.cons_append,Io]
  rw [abn (h p List.mem_cons_self).1 (h p List.mem_cons_self).2]
  simp only
  rw [JB fun q hq=>h q (List.mem_cons_of_mem _ hq),List.append_assoc]
  rfl
theorem JS (h:Raw ld it) (i9:it.length≤13):Io (words ld it) [] []=some (ld,it):=by
 unfold words
 rw [JB fun p hp=>⟨h.hw p hp,t13 h i9 hp⟩,Jo (fun p hp=>⟨h.hi p hp,i13 h i9 hp⟩) (by omega) (by omega)]
 rfl
theorem R8 (h:Raw ld it) (i9:it.length≤13):∀ w∈words ld it,sY 32 w:=fun w hw=>by
 rcases List.mem_append.mp hw with hw | hw
 ·obtain ⟨p,hp,rfl⟩:=List.mem_map.mp hw
  exact aey (h.hw p hp) (t13 h i9 hp)
 ·obtain ⟨i,hi⟩:=List.getElem?_of_mem hw
  have hl:i<it.length:=by rw [← lC it 1];exact (List.getElem?_eq_some_iff.mp hi).1
  rw [zK (List.getElem?_eq_getElem hl)] at hi
  cases hi
  have hm:=List.getElem_mem hl
  exact (VL (h.hi _ hm) (i13 h i9 hm) (by omega)).1
theorem R5 (h:Raw ld it) (i9:it.length≤13):wordsOf (txt ld it)=words ld it:=by
 unfold txt
 by_cases c:words ld it=[]
 ·rw [if_pos c,c]
  exact if_pos rfl
 ·rw [if_neg c]
  have hs:Txt.split (Txt.join " " (words ld it)) " "=words ld it:=TL.split_join (y:=" ") (s:=32) (S:=[]) (by decide) (by decide+kernel) c (R8 h i9)
  unfold wordsOf
  by_cases d:Txt.join " " (words ld it)="empty"
  ·rw [d] at hs
   have e:Txt.split ("empty":Str) " "=[("empty":Str)]:=by decide+kernel
   rw [e] at hs
   have:=JS h i9
   rw [← hs] at this
   have e2:Io [("empty":Str)] [] []=none:=by
    have e3:Yp ("empty":Str)=none:=by
     unfold Yp
     rw [TL.partition_none (y:="=") (s:=61) (S:=[]) (by decide) (by decide),TL.partition_none (y:=":") (s:=58) (S:=[]) (by decide) (by decide)]
     rfl
    simp only [Io,e3]
   rw [e2] at this
   cases this
  ·rw [if_neg d]
   exact hs
theorem Ce (n:Nat) (h:Can ld it) (i9:it.length≤13) (ht:(txt ld it).length≤990) {S:Hs} (hS:NR S):(Mn (n+4)).cal "read_web" [.str (txt ld it)] S=.ok (.val (vL ld it)) S:=by
 have hb:Io (wordsOf (txt ld it)) [] []=some (ld,it):=by rw [R5 h.raw i9];exact JS h.raw i9
 obtain ⟨hr,hf,e1,e2⟩:=acA h (aee h)
 rcases aaZ n ht hS with ⟨N,I,h1,_,_,h2⟩ | ⟨_,h1⟩
 ·rw [hb] at h1
  cases h1
  rw [e1,e2] at h2
  exact h2
 ·exact absurd (by rw [e1,e2]) (h1 ld it hb (af2 hr (by omega) hf))
end
end K04
namespace K04
open PySem L2 Oz
theorem Lf (y:List Nat):∀ ps:List (List Nat),(TL.joinL y ps).length≤(ps.map fun p=>p.length+y.length).sum
 | []=>by simp [TL.joinL]
 | [p]=>by simp [TL.joinL]
 | p::q::r=>by
  have ih:=Lf y (q::r)
  simp only [TL.joinL,List.length_append]
  rw [List.map_cons,List.sum_cons]
  omega
theorem Jv (y:List Nat):∀ ps:List (List Nat),(ps.map fun p=>p.length).sum≤(TL.joinL y ps).length
 | []=>by simp
 | [p]=>by simp [TL.joinL]
 | p::q::r=>by
  have ih:=Jv y (q::r)
  simp only [TL.joinL,List.length_append]
  rw [List.map_cons,List.sum_cons]
  omega
theorem sum_le {α:Type} (f:α→Nat) (b:Nat):∀ xs:List α,(∀ x∈xs,f x≤b)→(xs.map f).sum≤xs.length* b
 | [],_=>by simp
 | x::xs,h=>by
  have h1:=h x List.mem_cons_self
  have h2:=sum_le f b xs fun y hy=>h y (List.mem_cons_of_mem _ hy)
  rw [List.map_cons,List.sum_cons,List.length_cons,Nat.add_mul]
  omega
theorem Hi (y:Str) (ps:List Str):(Txt.join y ps).length≤(ps.map fun p=>p.length+y.length).sum:=by
 rw [TL.join_eq]
 have e:(Str.join y ps).length=(TL.tl (Str.join y ps)).length:=TL.len_tl _
 rw [e,TL.tl_join]
 refine Nat.le_trans (Lf _ _) ?_
 rw [List.map_map]
 exact Nat.le_of_eq rfl
theorem ahj {p:Str × Int} (h:yt p.1) (k: -1≤p.2∧p.2≤13):(wN p).length≤9:=by
 unfold wN
 have h1:=h.hi
 have h2:=(BW k).2.1.2
 have e:("=":Str).length=1:=by decide
 rw [len_app,len_app,e]
 omega
theorem adl {many:Nat} {p:Str × List Int} (h:Item many p) (k:∀ t∈p.2,-1≤t∧t≤13):(inn p).length≤6:=by
 unfold inn
 refine Nat.le_trans (Hi _ _) ?_
 have e:(",":Str).length=1:=by decide
 have:=sum_le (fun p:Str=>p.length+(",":Str).length) 3 (p.2.map mk) fun z hz=>by
  obtain ⟨t,ht,rfl⟩:=List.mem_map.mp hz
  have:=(BW (k t ht)).2.1.2
  rw [e];omega
 refine Nat.le_trans this ?_
 rw [List.length_map]
 have:=h.l
 omega
theorem agE {many:Nat} {p:Str × List Int} (h:Item many p) (k:∀ t∈p.2,-1≤t∧t≤13) {j:Int} (hj:0≤j∧j≤14):(wI j p).length≤19:=by
 unfold wI
 have h1:=(Ol hj).1
 have h2:=h.w.1
 have h3:=adl h k
 have e1:(":":Str).length=1:=by decide
 have e2:("(":Str).length=1:=by decide
 have e3:(")":Str).length=1:=by decide
 rw [len_app,len_app,len_app,len_app,len_app,e1,e2,e3]
 omega
theorem aeF {ld:cY} {it:Its} (h:Raw ld it) (i9:it.length≤13):(txt ld it).length≤320:=by
 unfold txt
 split
 ·decide
 ·refine Nat.le_trans (Hi _ _) ?_
  have e:(" ":Str).length=1:=by decide
  unfold words
  rw [List.map_append,List.sum_append]
  have n6:=h.fit.n6
  have s1:=sum_le (fun p:Str=>p.length+(" ":Str).length) 10 (ld.map wN) fun z hz=>by
   obtain ⟨p,hp,rfl⟩:=List.mem_map.mp hz
   have:=ahj (h.hw p hp) (t13 h i9 hp)
   rw [e];omega
  have s2:=sum_le (fun p:Str=>p.length+(" ":Str).length) 20 (CP 1 it) fun z hz=>by
   obtain ⟨i,hi⟩:=List.getElem?_of_mem hz
   have hl:i<it.length:=by rw [← lC it 1];exact (List.getElem?_eq_some_iff.mp hi).1
   rw [zK (List.getElem?_eq_getElem hl)] at hi
   cases hi
   have hm:=List.getElem_mem hl
   have:=agE (h.hi _ hm) (i13 h i9 hm) (j:=1+(i:Nat)) (by omega)
   rw [e];omega
  rw [List.length_map] at s1
  rw [lC] at s2
  omega
theorem ajf {a b c:Int} {ds:List Int} (h:Xp [a,b,c] ds):∃ w x y,ds=[w,x,y]∧(0≤w∧w<a)∧(0≤x∧x<b)∧(0≤y∧y<c):=by
 have hl:=h.len
 match ds,hl with
 | [w,x,y],_=>exact ⟨w,x,y,rfl,h.at_ 0 _ _ rfl rfl,h.at_ 1 _ _ rfl rfl,h.at_ 2 _ _ rfl rfl⟩
theorem Zr {t:Str} (ht:t.length≤320) {S:Hs}:∃ z:Str,z.length≤990∧zu .join S " " (.lst (((Txt.split t " ").map Vl.str).reverse))=some (.str z):=by
 have e1:(" ":Str).length=1:=by decide
 have hl:=PyProof.Rows.split_le t " "
 have aoG:((Txt.split t " ").map fun p=>p.length).sum≤t.length:=by
  have e:=TL.tl_join " " (Txt.split t " ")
  rw [PySem.StrLaws.join_split] at e
  have:=Jv (TL.tl " ") ((Txt.split t " ").map TL.tl)
  rw [← e,Ls,List.map_map] at this
  exact this
 have perm:∀ (f:Str→Nat),((Txt.split t " ").reverse.map f).sum=((Txt.split t " ").map f).sum:=fun f=>by
  rw [List.map_reverse,List.sum_reverse]
 have plus:∀ xs:List Str,(xs.map fun p=>p.length+(" ":Str).length).sum=(xs.map fun p=>p.length).sum+xs.length:=fun xs=>by
  induction xs with
  | nil=>rfl
  | cons x xs ih=>simp only [List.map_cons,List.sum_cons,List.length_cons];rw [ih,e1];omega
 refine ⟨Txt.join " " (Txt.split t " ").reverse,?_,?_⟩
 ·refine Nat.le_trans (Hi _ _) ?_
  rw [perm,plus]
  omega
 ·have all:∀ qs:List Str,uC (qs.map Vl.str)=some qs:=Kr
  unfold zu
  rw [← List.map_reverse]
  simp only [cV,Option.bind_some,all]
  rw [if_pos]
  rw [perm,e1,List.length_reverse]
  exact iY (by omega)
section
variable {M:aF} {a i:E} {η:Sg} {S S1 S2:Hs} {x y z z0 z1 z2 z3:Str}
theorem aeo (ha:ev M a η S=.ok (.str x) S1) (hx:x.length+(x.length+1)* z.length≤16777216):ev M (.Wy a y z) η S=.ok (.str (Txt.replace x y z)) S1:=by
 simp only [ev,ha,Res.bind,if_pos hx]
theorem aec {k:Int} (ha:ev M a η S=.ok (.str x) S1) (hi:ev M i η S1=.ok (.int k) S2) (hk:0≤k) (hz:[z0,z1,z2,z3][k.toNat]? =some z) (hn:(y==z)=false) (hx:x.length+(x.length+1)* z.length≤16777216):ev M (.replL a y z0 z1 z2 z3 i) η S=.ok (.str (Txt.replace x y z)) S2:=by
 simp only [ev,ha,hi,Res.bind,hz]
 rw [if_pos ⟨hk,hn,hx⟩]
end
def mks:Str:="0123 =:()-*,a"
theorem agB:∀ k∈List.range 13,(mks.cps.toList[k]?).isSome=true:=by decide+kernel
theorem ahw {S:Hs} {s:Int}:∃ c,dM S (.str mks) (.int (s%13))=some (.str ⟨#[c]⟩):=by
 have h0:=Int.emod_nonneg s (show (13:Int)≠0 by omega)
 have h1:=Int.emod_lt_of_pos s (show (0:Int)<13 by omega)
 have e:s%13=(((s%13).toNat:Nat):Int):=by omega
 obtain ⟨c,hc⟩:=Option.isSome_iff_exists.mp (agB (s%13).toNat (List.mem_range.mpr (by omega)))
 exact ⟨c,by rw [e];exact ix_str (by decide) hc⟩
abbrev sp (ns:List Int) (k:Nat) (t:Str) (a3 a4 a5 a6 a7 a8:Option Vl):Sg:=[some (zs ns),some (.int k),some (.str t),a3,a4,a5,a6,a7,a8]
theorem Zt (n:Nat) (ns:List Int) {k:Nat} {t:Str} (ht:t.length≤320) {S:Hs} (hS:NR S):∃ z:Str,z.length≤990∧(Mn (n+3)).cal "_law_spoilt" [zs ns,.int k,.str t] S=.ok (.val (.str z)) S:=by
 obtain ⟨ds,hd,hc⟩:=uv n ns (k:=k) (sizes:=[8,997,14]) (by decide) (by decide) hS
 obtain ⟨how,place,sign,rfl,h1,h2,h3⟩:=ajf hd
 rw [Jk]
 have fin:∀ {z:Str},z.length≤990→exec (Mn (n+2)) Be (sp ns k t none none none none none none) S=.ret (.val (.str z)) S→∃ z:Str,z.length≤990∧gK (Mn (n+2)) Ab [zs ns,.int k,.str t] S=.ok (.val (.str z)) S:=fun {z} hz h=>⟨z,hz,dh (T:=[]) rfl (by rw [List.append_nil];exact h) hS (by simp only [Vl.nr])⟩
 have m0:=Int.emod_nonneg place (show ((t.length:Int)+1)≠0 by omega)
 have m1:=Int.emod_lt_of_pos place (show (0:Int)<(t.length:Int)+1 by omega)
 have y0:aP (Mn (n+2)) (.asg (.tp (.cons (.nm 3) (.cons (.nm 4) (.cons (.nm 5) .nil)))) (.call "_law_digits" (.cons (.var 0) (.cons (.var 1) (.cons (.inl (.lst (.cons (.cst (.int 8)) (.cons (.cst (.int 997)) (.cons (.cst (.int 14)) .nil))))) .nil))))) (sp ns k t none none none none none none) S=.nx (sp ns k t (some (.int how)) (some (.int place)) (some (.int sign)) none none none) S:=
  bz _ _ (bJ (aa (v_var rfl) (aa (v_var rfl) (aa (dw (lL (aa aj (aa aj (aa aj az))) (show 3≤1000000 by decide))) az))) hc) rfl
 have y1:aP (Mn (n+2)) (.asg (.nm 6) (.bin .Mod (.var 4) (.bin .Add (.b1 .len (.var 2)) (.cst (.int 1))))) (sp ns k t (some (.int how)) (some (.int place)) (some (.int sign)) none none none) S=.nx (sp ns k t (some (.int how)) (some (.int place)) (some (.int sign)) (some (.int (place%((t.length:Int)+1)))) none none) S:=
  bz _ _ (aW (v_var rfl) (aW (dG (v_var rfl) (if_pos (iY (by omega)))) aj (eZ _ _)) (jy (by omega))) rfl
 obtain ⟨p,hp⟩:∃ p:Nat,place%((t.length:Int)+1)=p:=⟨(place%((t.length:Int)+1)).toNat,by omega⟩
 rw [hp] at y1
 have y2:aP (Mn (n+2)) (.asg (.nm 7) (.cst (.str "0123 =:()-*,a"))) (sp ns k t (some (.int how)) (some (.int place)) (some (.int sign)) (some (.int p)) none none) S=.nx (sp ns k t (some (.int how)) (some (.int place)) (some (.int sign)) (some (.int p)) (some (.str mks)) none) S:=bz _ _ aj rfl
 have st:∀ {o:Out},exec (Mn (n+2)) _ (sp ns k t (some (.int how)) (some (.int place)) (some (.int sign)) (some (.int p)) (some (.str mks)) none) S=o→exec (Mn (n+2)) Be (sp ns k t none none none none none none) S=o:=fun {o} h=>aq y0 (aq y1 (aq y2 h))
 have eqN:∀ {c:Nat} {d:Bool},decide (how=(c:Int))=d→ev (Mn (n+2)) (.cmp .Eq (.var 3) (.cst (.int c))) (sp ns k t (some (.int how)) (some (.int place)) (some (.int sign)) (some (.int p)) (some (.str mks)) none) S=.ok (.bl d) S:=fun {c d} h=>aK (v_var rfl) aj (by rw [← h];simp [cmpop,zq,YX])
 have lo:ev (Mn (n+2)) (.Cz (.var 2) .none (.some (.var 6))) (sp ns k t (some (.int how)) (some (.int place)) (some (.int sign)) (some (.int p)) (some (.str mks)) none) S=.ok (.str (cutS t none (some (p:Int)))) S:=BK (v_var rfl) qK (qH (v_var rfl)) (QH (by omega))
 have hi:ev (Mn (n+2)) (.Cz (.var 2) (.some (.var 6)) .none) (sp ns k t (some (.int how)) (some (.int place)) (some (.int sign)) (some (.int p)) (some (.str mks)) none) S=.ok (.str (cutS t (some (p:Int)) none)) S:=BK (v_var rfl) (qH (v_var rfl)) qK (QH (by omega))
 have hi1:ev (Mn (n+2)) (.Cz (.var 2) (.some (.bin .Add (.var 6) (.cst (.int 1)))) .none) (sp ns k t (some (.int how)) (some (.int place)) (some (.int sign)) (some (.int p)) (some (.str mks)) none) S=.ok (.str (cutS t (some ((p:Int)+1)) none)) S:=BK (v_var rfl) (qH (aW (v_var rfl) aj (eZ _ _))) qK (QH (by omega))
 obtain ⟨c,hcm⟩:=ahw (S:=S) (s:=sign)
 have mk:ev (Mn (n+2)) (.idx (.var 7) (.bin .Mod (.var 5) (.cst (.int 13)))) (sp ns k t (some (.int how)) (some (.int place)) (some (.int sign)) (some (.int p)) (some (.str mks)) none) S=.ok (.str ⟨#[c]⟩) S:=du (v_var rfl) (aW (v_var rfl) aj (jy (by decide))) hcm
 have l1:=DG t none (some (p:Int))
 have l2:=DG t (some (p:Int)) none
 have l3:=DG t (some ((p:Int)+1)) none
 have lc:(⟨#[c]⟩:Str).length=1:=rfl
 have sl:∀ {x y:Str},x.length≤1000→y.length≤1000→x.length+y.length≤sizeLine:=fun {x y} h k=>Nat.le_trans (Nat.add_le_add h k) (by decide)
 by_cases c0:how=0
 ·refine fin (z:=cutS t none (some (p:Int))++⟨#[c]⟩++cutS t (some (p:Int)) none) (by rw [len_app,len_app];omega) (st (bA (cQ _ (eqN (c:=0) (decide_eq_true c0)) (bA (dJ _ _ (aW (aW lo mk (eU (sl (by omega) (by omega)))) hi (eU (sl (by rw [len_app];omega) (by omega)))))))))
 have y3:=bD (M:=Mn (n+2)) (a:=.cons (.ret (.bin .Add (.bin .Add (.Cz (.var 2) .none (.some (.var 6))) (.idx (.var 7) (.bin .Mod (.var 5) (.cst (.int 13))))) (.Cz (.var 2) (.some (.var 6)) .none))) .nil) (b:=.nil) S (eqN (c:=0) (decide_eq_false c0)) aM
 by_cases c1:how=1
 ·refine fin (z:=cutS t none (some (p:Int))++⟨#[c]⟩++cutS t (some ((p:Int)+1)) none) (by rw [len_app,len_app];omega) (st (aq y3 (bA (cQ _ (eqN (c:=1) (decide_eq_true c1)) (bA (dJ _ _ (aW (aW lo mk (eU (sl (by omega) (by omega)))) hi1 (eU (sl (by rw [len_app];omega) (by omega))))))))))
 have y4:=bD (M:=Mn (n+2)) (a:=.cons (.ret (.bin .Add (.bin .Add (.Cz (.var 2) .none (.some (.var 6))) (.idx (.var 7) (.bin .Mod (.var 5) (.cst (.int 13))))) (.Cz (.var 2) (.some (.bin .Add (.var 6) (.cst (.int 1)))) .none))) .nil) (b:=.nil) S (eqN (c:=1) (decide_eq_false c1)) aM
 by_cases c2:how=2
 ·refine fin (z:=cutS t none (some (p:Int))++cutS t (some ((p:Int)+1)) none) (by rw [len_app];omega) (st (aq y3 (aq y4 (bA (cQ _ (eqN (c:=2) (decide_eq_true c2)) (bA (dJ _ _ (aW lo hi1 (eU (sl (by omega) (by omega)))))))))))
 have y5:=bD (M:=Mn (n+2)) (a:=.cons (.ret (.bin .Add (.Cz (.var 2) .none (.some (.var 6))) (.Cz (.var 2) (.some (.bin .Add (.var 6) (.cst (.int 1)))) .none))) .nil) (b:=.nil) S (eqN (c:=2) (decide_eq_false c2)) aM
 by_cases c3:how=3
 ·have q0:=Int.emod_nonneg sign (show (4:Int)≠0 by omega)
  have q1:=Int.emod_lt_of_pos sign (show (0:Int)<4 by omega)
  obtain ⟨z,hz,hzl,hzn⟩:∃ z:Str,[("2":Str),"01","11","-"][(sign%4).toNat]? =some z∧z.length≤2∧(("1":Str)==z)=false:=by
   have:sign%4=0∨sign%4=1∨sign%4=2∨sign%4=3:=by omega
   rcases this with e | e | e | e<;>rw [e]
   ·exact ⟨_,rfl,by decide,by decide⟩
   ·exact ⟨_,rfl,by decide,by decide⟩
   ·exact ⟨_,rfl,by decide,by decide⟩
   ·exact ⟨_,rfl,by decide,by decide⟩
  have hb:t.length+(t.length+1)* z.length≤962:=by
   have:(t.length+1)* z.length≤(t.length+1)* 2:=Nat.mul_le_mul_left _ hzl
   omega
  refine fin (z:=Txt.replace t "1" z) (Nat.le_trans (TK.replace_len t "1" z) (by omega)) (st (aq y3 (aq y4 (aq y5 (bA (cQ _ (eqN (c:=3) (decide_eq_true c3)) (bA (dJ _ _ (aec (v_var rfl) (aW (v_var rfl) aj (jy (by decide))) q0 hz hzn (by omega))))))))))
 have y6:=bD (M:=Mn (n+2)) (a:=.cons (.ret (.replL (.var 2) "1" "2" "01" "11" "-" (.bin .Mod (.var 5) (.cst (.int 4))))) .nil) (b:=.nil) S (eqN (c:=3) (decide_eq_false c3)) aM
 by_cases c4:how=4
 ·obtain ⟨z,hz,hj⟩:=Zr ht (S:=S)
  refine fin hz (st (aq y3 (aq y4 (aq y5 (aq y6 (bA (cQ _ (eqN (c:=4) (decide_eq_true c4)) (aq (bz _ _ (dw (yC (v_var rfl) aj (by decide) (by omega))) rfl) (bA (dJ _ _ (xN aj (dw (aj1 (v_var rfl) rfl)) hj)))))))))))
 have y7:=bD (M:=Mn (n+2)) (a:=.cons (.asg (.nm 8) (.inl (.split (.var 2) (.cst (.str " "))))) (.cons (.ret (.tm .join (.cst (.str " ")) (.inl (.rev (.var 8))))) .nil)) (b:=.nil) S (eqN (c:=4) (decide_eq_false c4)) aM
 have q0:=Int.emod_nonneg sign (show (7:Int)≠0 by omega)
 have q1:=Int.emod_lt_of_pos sign (show (0:Int)<7 by omega)
 have b1:(" ":Str).length=1:=by decide
 have b2:("\n":Str).length=1:=by decide
 have b3:("  ":Str).length=2:=by decide
 have hr:t.length+(t.length+1)* ("  ":Str).length≤962:=by rw [b3];omega
 obtain ⟨z,hz,hzl⟩:∃ z:Str,[Vl.str t,.str (t++" "),.str (" "++t),.str "",.str "empty ",.str (t++"\n"),.str (Txt.replace t " " "  ")][(sign%7).toNat]? =some (.str z)∧z.length≤990:=by
  have:sign%7=0∨sign%7=1∨sign%7=2∨sign%7=3∨sign%7=4∨sign%7=5∨sign%7=6:=by omega
  rcases this with e | e | e | e | e | e | e<;>rw [e]
  ·exact ⟨_,rfl,by omega⟩
  ·exact ⟨_,rfl,by rw [len_app];omega⟩
  ·exact ⟨_,rfl,by rw [len_app];omega⟩
  ·exact ⟨_,rfl,by decide⟩
  ·exact ⟨_,rfl,by decide⟩
  ·exact ⟨_,rfl,by rw [len_app];omega⟩
  ·exact ⟨_,rfl,Nat.le_trans (TK.replace_len t " " "  ") (by omega)⟩
 have hs:sign%7=(((sign%7).toNat:Nat):Int):=by omega
 refine fin hzl (st (aq y3 (aq y4 (aq y5 (aq y6 (aq y7 (bA (dJ _ _ (du (dw (lL (aa (v_var rfl) (aa (aW (v_var rfl) aj (eU (sl (by omega) (by omega)))) (aa (aW aj (v_var rfl) (eU (sl (by omega) (by omega)))) (aa aj (aa aj (aa (aW (v_var rfl) aj (eU (sl (by omega) (by omega)))) (aa (aeo (v_var rfl) (by omega)) az))))))) (show 7≤1000000 by decide))) (aW (v_var rfl) aj (jy (by decide))) (by rw [hs];exact jT hz))))))))))
end K04
namespace K04
open PySem L2 Oz
theorem HW (n:Nat) {t:Str} {v:Vl} (hv:v.nr=true) {S:Hs} (hS:NR S) (h:(Mn (n+4)).cal "read_web" [.str t] S=.ok (.val v) S):(Mn (n+5)).cal "_law_reads" [.str t] S=.ok (.val (.tup [.str "",v])) S:=by
 rw [Ik]
 refine dh (T:=[]) rfl ?_ hS (by simp only [Vl.nr,dH,hv,Bool.and_self])
 show exec (Mn (n+4)) FQ [some (.str t),none,none,none] S=_
 rw [List.append_nil]
 exact aq (bz _ _ (iK (aa aj (aa aj az)) (show 2≤1000000 by decide)) rfl) (aq (ahn (G8 (bz _ _ (bJ (r:=.val v) (aa (v_var rfl) az) h) rfl))) (bA (dJ _ _ (iK (aa (v_var rfl) (aa (v_var rfl) az)) (show 2≤1000000 by decide)))))
theorem abj (n:Nat) {t:Str} {S:Hs} (hS:NR S) (h:(Mn (n+4)).cal "read_web" [.str t] S=.exc bt S):(Mn (n+5)).cal "_law_reads" [.str t] S=.ok (.val (.tup [.str "BadText",.non])) S:=by
 rw [Ik]
 refine dh (T:=[]) rfl ?_ hS (by simp only [Vl.nr,dH,Bool.and_self])
 show exec (Mn (n+4)) FQ [some (.str t),none,none,none] S=_
 rw [List.append_nil]
 have bad:exec (Mn (n+4)) zJ [some (.str t),some (.str ""),some .non,none] S=.exc bt [some (.str t),some (.str ""),some .non,none] S:=cA (by simp only [aP];rw [yd (aa (v_var rfl) az) h];rfl)
 have tr:aP (Mn (n+4)) (.try_ zJ "BadText" 3 Jm) [some (.str t),some (.str ""),some .non,none] S=.nx [some (.str t),some (.str "BadText"),some .non,none] S:=
  af8 (η2:=[some (.str t),some (.str "BadText"),some .non,some (.err "BadText" [] [])]) bad (sbT (by decide+kernel)) rfl (afd hS) (G8 (bz _ _ (bJ (r:=.val (.str "BadText")) (aa (v_var rfl) az) (aip (n+3) hS)) rfl)) rfl (afd hS)
 exact aq (bz _ _ (iK (aa aj (aa aj az)) (show 2≤1000000 by decide)) rfl) (aq tr (bA (dJ _ _ (iK (aa (v_var rfl) (aa (v_var rfl) az)) (show 2≤1000000 by decide)))))
theorem QF (n:Nat) {ld:cY} {it:Its} (h:Raw ld it) {S:Hs} (hS:NR S):(Mn (n+1)).cal "_law_same" [.str (txt ld it),.str (txt ld it)] S=.ok (.val (.bl true)) S:=
 Zo n (by simp only [Vl.pd];exact VG (ab5 h).2) (by simp only [Vl.dep];omega) (by simp only [Vl.wt];have:=(ab5 h).1;omega) hS
abbrev sG (ns:List Int) (i a2 a3 a4 a5 a6:Option Vl):Sg:=[some (zs ns),i,a2,a3,a4,a5,a6]
theorem ZK (n:Nat) (ns:List Int) {i:Nat} {S:Hs} (hS:NR S) (a2 a3 a4 a5 a6:Option Vl) :
  ∃ b2 b3 b4 b5 b6,exec (Mn (n+5)) Mg (sG ns (some (.int (i:Nat))) a2 a3 a4 a5 a6) S=.nx (sG ns (some (.int (i:Nat))) b2 b3 b4 b5 b6) S:=by
 obtain ⟨nm,it0,raw,i9,hraw⟩:=aiB (n+1) ns (k:=12* i) hS
 have can:=Tc raw
 have i13:(jf nm it0).length≤13:=by rw [uB];exact Nat.le_trans (qI raw.fit) i9
 generalize eO nm it0=ld at *
 generalize jf nm it0=it at *
 have tl:=aeF can.raw i13
 have ek:(12:Int)* (i:Int)=((12* i:Nat):Int):=by omega
 have ek2:((12* i:Nat):Int)+11=((12* i+11:Nat):Int):=by omega
 have mul:binop .Mult (.int 12) (.int (i:Int))=some (.int ((12* i:Nat):Int)):=by rw [qL (by omega) (by omega),ek]
 have afC:=Ce n can i13 (by omega) hS
 have agL:=HW n (Mp ld it) hS afC
 obtain ⟨p1,p2,p3⟩:=ajx can.raw i13
 obtain ⟨z,hz,Cp⟩:=Zt (n+2) ns (k:=12* i+11) tl hS
 have y0:aP (Mn (n+5)) _ (sG ns (some (.int (i:Nat))) a2 a3 a4 a5 a6) S=.nx (sG ns (some (.int (i:Nat))) (some (rv ld it)) a3 a4 a5 a6) S:=bz (t:=.nm 2) _ _ (bJ (m:="_law_raw") (r:=.val (rv ld it)) (aa (v_var (i:=0) rfl) (aa (aW (op:=.Mult) aj (v_var (i:=1) rfl) mul) (aa (dw (lL (aa (iK (aa aj (aa aj az)) (show 2≤1000000 by decide)) (aa (iK (aa aj (aa aj az)) (show 2≤1000000 by decide)) (aa (iK (aa aj (aa aj az)) (show 2≤1000000 by decide)) az))) (show 3≤1000000 by decide))) (aa aj az)))) hraw) rfl
 have y1:aP (Mn (n+5)) (.asg (.nm 3) (.call "_law_text" (.cons (.var 2) .nil))) (sG ns (some (.int (i:Nat))) (some (rv ld it)) a3 a4 a5 a6) S=.nx (sG ns (some (.int (i:Nat))) (some (rv ld it)) (some (.str (txt ld it))) a4 a5 a6) S:=bz _ _ (bJ (r:=.val (.str (txt ld it))) (aa (v_var rfl) az) (Vb (n+3) can.raw hS)) rfl
 have y2:aP (Mn (n+5)) (.asg (.tp (.cons (.nm 4) (.cons (.nm 5) .nil))) (.call "_law_reads" (.cons (.var 3) .nil))) (sG ns (some (.int (i:Nat))) (some (rv ld it)) (some (.str (txt ld it))) a4 a5 a6) S=.nx (sG ns (some (.int (i:Nat))) (some (rv ld it)) (some (.str (txt ld it))) (some (.str "")) (some (vL ld it)) a6) S:=bz _ _ (bJ (r:=.val (.tup [.str "",vL ld it])) (aa (v_var rfl) az) agL) rfl
 have y3:aP (Mn (n+5)) (.ite (.bor (.cmp .NotEq (.var 4) (.cst (.str ""))) (.pY (.call "_law_same" (.cons (.call "_law_told" (.cons (.var 5) .nil)) (.cons (.var 2) .nil))))) (.cons (.ret (.cst (.bl false))) .nil) .nil) (sG ns (some (.int (i:Nat))) (some (rv ld it)) (some (.str (txt ld it))) (some (.str "")) (some (vL ld it)) a6) S=.nx (sG ns (some (.int (i:Nat))) (some (rv ld it)) (some (.str (txt ld it))) (some (.str "")) (some (vL ld it)) a6) S:=
  bD _ (t8 (aK (v_var rfl) aj (neZ.trans (congrArg some (by rw [decide_eq_true rfl];rfl)))) (jR (d:=true) (bJ (r:=.val (.bl true)) (aa (bJ (r:=.val (rv ld it)) (aa (v_var rfl) az) (agy (n+3) hS)) (aa (v_var rfl) az)) (Zo (n+4) p1 p2 p3 hS)))) aM
 have y4:aP (Mn (n+5)) (.asg (.nm 6) (.call "_law_spoilt" (.cons (.var 0) (.cons (.bin .Add (.bin .Mult (.cst (.int 12)) (.var 1)) (.cst (.int 11))) (.cons (.var 3) .nil))))) (sG ns (some (.int (i:Nat))) (some (rv ld it)) (some (.str (txt ld it))) (some (.str "")) (some (vL ld it)) a6) S=.nx (sG ns (some (.int (i:Nat))) (some (rv ld it)) (some (.str (txt ld it))) (some (.str "")) (some (vL ld it)) (some (.str z))) S:=
  bz _ _ (bJ (r:=.val (.str z)) (aa (v_var rfl) (aa (aW (aW aj (v_var rfl) mul) aj (by rw [eZ,ek2])) (aa (v_var rfl) az))) Cp) rfl
 rcases aaZ n hz hS with ⟨N0,I0,_,hvd,hzt,hrw⟩ | ⟨hrw,_⟩
 ·have Ry:=HW n (Mp _ _) hS hrw
  have acD:=Tc (aam hvd).1
  generalize eO N0 I0=N at *
  generalize jf N0 I0=I at *
  subst hzt
  refine ⟨some (rv ld it),some (.str (txt ld it)),some (.str ""),some (vL N I),some (.str (txt N I)),?_⟩
  have y5:aP (Mn (n+5)) (.asg (.tp (.cons (.nm 4) (.cons (.nm 5) .nil))) (.call "_law_reads" (.cons (.var 6) .nil))) (sG ns (some (.int (i:Nat))) (some (rv ld it)) (some (.str (txt ld it))) (some (.str "")) (some (vL ld it)) (some (.str (txt N I)))) S=.nx (sG ns (some (.int (i:Nat))) (some (rv ld it)) (some (.str (txt ld it))) (some (.str "")) (some (vL N I)) (some (.str (txt N I)))) S:=bz _ _ (bJ (r:=.val (.tup [.str "",vL N I])) (aa (v_var rfl) az) Ry) rfl
  exact aq y0 (aq y1 (aq y2 (aq y3 (aq y4 (aq y5 (G8 (cQ _ (aK (v_var rfl) aj (eqZ.trans (congrArg some (decide_eq_true rfl)))) (aq (bD _ (t8 (jR (d:=true) (Uw (v_var rfl) (jm S _ _))) (jR (d:=true) (bJ (r:=.val (.bl true)) (aa (WM (v_var rfl) (yW (by decide)) (W7 (n+2) acD.raw hS)) (aa (v_var rfl) az)) (QF (n+4) acD.raw hS)))) aM) (G8 (bD _ (jR (d:=true) (bJ (r:=.val (.bl true)) (aa (bJ (r:=.val (.str (txt N I))) (aa (iK (aa (aab (r:=.frs (.lst (valN N))) (v_var rfl) (yW (by decide)) az (WN (n+4) hS)) (aa (aab (r:=.frs (.lst (aY I))) (v_var rfl) (yW (by decide)) az (Vf (n+4) hS)) az)) (show 2≤1000000 by decide)) az) (Vb (n+3) acD.raw hS)) (aa (v_var rfl) az)) (QF (n+4) acD.raw hS))) aM))))))))))
 ·have Ry:=abj n hS hrw
  have Lh:z≠txt ld it:=fun e=>by
   rw [e,afC] at hrw
   cases hrw
  refine ⟨some (rv ld it),some (.str (txt ld it)),some (.str "BadText"),some .non,some (.str z),?_⟩
  have y5:aP (Mn (n+5)) (.asg (.tp (.cons (.nm 4) (.cons (.nm 5) .nil))) (.call "_law_reads" (.cons (.var 6) .nil))) (sG ns (some (.int (i:Nat))) (some (rv ld it)) (some (.str (txt ld it))) (some (.str "")) (some (vL ld it)) (some (.str z))) S=.nx (sG ns (some (.int (i:Nat))) (some (rv ld it)) (some (.str (txt ld it))) (some (.str "BadText")) (some .non) (some (.str z))) S:=bz _ _ (bJ (r:=.val (.tup [.str "BadText",.non])) (aa (v_var rfl) az) Ry) rfl
  exact aq y0 (aq y1 (aq y2 (aq y3 (aq y4 (aq y5 (G8 (bD _ (aK (v_var rfl) aj (eqZ.trans (congrArg some (by decide)))) (G8 (bD _ (t8 (aK (v_var rfl) aj (neZ.trans (congrArg some (by decide)))) (aK (v_var rfl) (v_var rfl) (eqZ.trans (congrArg some (decide_eq_false Lh))))) aM)))))))))
theorem Vm:Raw [] []:=⟨⟨List.Pairwise.nil,by decide,by decide,fun p h=>(by cases h),fun p h=>(by cases h),fun p h=>(by cases h)⟩,fun p h=>(by cases h),fun p h=>(by cases h)⟩
theorem adh:Can [] []:=⟨Vm,rfl,rfl⟩
theorem txt_nil:txt [] []=("empty":Str):=by exact if_pos (show words [] []=[] from rfl)
theorem acX (S:Hs) (ld:cY) (it:Its):eqY S "Web" (vL ld it)=true:=rfl
theorem aa5 (n:Nat) {S:Hs} (hS:NR S):(Mn (n+1)).cal (dot "Web" "__eq__") [vL [] [],vL [] []] S=.ok (.val (.bl true)) S:=by
 rw [Ei]
 refine dh (T:=[]) rfl ?_ hS (by simp only [Vl.nr])
 show exec (Mn n) Fj [some (vL [] []),some (vL [] [])] S=_
 rw [List.append_nil]
 have e1:cmpop .Eq S (.dct (([]:cY).map fun p=>Sum.inr p.1) (([]:cY).map fun p=>.int p.2)) (.dct (([]:cY).map fun p=>Sum.inr p.1) (([]:cY).map fun p=>.int p.2))=some true:=rfl
 have e2:cmpop .Eq S (.lst (aY [])) (.lst (aY []))=some true:=eq_nil (xs:=[]) (by simp only [Il]) (by simp only [pP];omega)
 exact bA (dJ _ _ (pB (Uw (v_var rfl) (jm S _ _)) (pB (aK (DK (v_var rfl) (jm S _ _) vD) (DK (v_var rfl) (jm S _ _) vD) e1) (aK (DK (v_var rfl) (jm S _ _) vq) (DK (v_var rfl) (jm S _ _) vq) e2))))
theorem abK (ns:List Int) (h:ns.length≤63):∃ T,exec (Mn 10) Vw (some (.lst (ns.map .int))::List.replicate 6 none) []=.ret (.val (.bl true)) T:=by
 have loop:∃ b1 b2 b3 b4 b5 b6,forL (fun η1 S2=>exec (Mn 10) Mg η1 S2) (.nm 1) [] (jg 0 5) (sG ns none none none none none none) []=.nx (sG ns b1 b2 b3 b4 b5 b6) []:=by
  obtain ⟨η',S',g,b1,b2,b3,b4,b5,b6,e1,e2⟩:=ie (body:=fun η1 S2=>exec (Mn 10) Mg η1 S2) (t:=.nm 1) (lk:=[]) (xs:=jg 0 5) (η:=sG ns none none none none none none) (S:=[])
   (fun _ η S'=>∃ b1 b2 b3 b4 b5 b6,η=sG ns b1 b2 b3 b4 b5 b6∧S'=[]) ⟨none,none,none,none,none,none,rfl,rfl⟩ (fun _ η S' _=>aU _) fun i x η S' hx ⟨b1,b2,b3,b4,b5,b6,e1,e2⟩=>by
    subst e1 e2
    obtain ⟨hi,rfl⟩:=rP hx
    obtain ⟨c2,c3,c4,c5,c6,he⟩:=ZK 5 ns (i:=i) NR.nil b2 b3 b4 b5 b6
    exact ⟨_,rfl,_,_,.inl he,_,_,_,_,_,_,rfl,rfl⟩
  subst e1 e2
  exact ⟨_,_,_,_,_,_,g⟩
 obtain ⟨b1,b2,b3,b4,b5,b6,lp⟩:=loop
 have hN:NR []:=NR.nil
 have told:=Ce 5 adh (by decide) (by rw [txt_nil];decide) hN
 rw [txt_nil] at told
 have rd:=HW 5 (Mp [] []) hN told
 have args:evs (Mn 10) (.cons (.cst (.tup [])) (.cons (.cst (.tup [])) .nil)) (sG ns b1 b2 b3 b4 b5 b6) []=.ok [.tup [],.tup []] []:=aa aj (aa aj az)
 have nw:=afn 7 Vm (by decide) rfl (ZQ [] []) (ZQ [] []) hN args
 exact ⟨_,aq (jJ _ _ _ (mO (k:=5) aj (by decide)) lp) (bA (dJ _ _ (afs (d:=true) (ng:=false) (du (bJ (r:=.val (.tup [.str "",vL [] []])) (aa aj az) rd) aj (ix_tup (i:=1) rfl)) (dw nw) (yW (by decide)) (acX _ _ _) (aa5 9 hN))))⟩
end K04
end OzTac
open PySem PySem.W PyProof.Rows
local macro_rules | `(tactic| tm_at "ozFK")=>`(tactic| first
 | (refine' Oz.ai7 ?a ?b ?c ?d;(case a=>k_is);(case b=>k_is);(case c=>k_is);(case d=>k_is))
 | (refine' Oz.ajC ?a ?b ?c ?d ?e ?f ?g ?h ?i<;>k_is)
 | (refine' Oz.aj5 ?a ?b ?c ?d ?e;(case a=>k_is);(case b=>k_is);(case c=>k_is);(case d=>k_is);(case e=>k_is)))
local macro_rules | `(tactic| tm_at "ozKA")=>`(tactic| first
 | exact trivial
 | (refine ⟨⟨.inl ⟨rfl,rfl⟩,?_⟩,?_⟩;(focus (k_is));(focus (tm_at "ozKA")))
 | (refine ⟨⟨.inr rfl,?_⟩,?_⟩;(focus (k_is));(focus (tm_at "ozKA")))
 | (refine ⟨⟨rfl,?_⟩,?_⟩;(focus (k_is));(focus (tm_at "ozKA"))))
local macro_rules | `(tactic| tm_at "ozAF")=>`(tactic| first
 | exact trivial
 | (refine ⟨⟨?_,?_⟩,?_⟩;(focus (k_is));(focus (k_is));(focus (tm_at "ozAF")))
 | (refine ⟨trivial,?_⟩;tm_at "ozAF"))
def PySem.W.Fast.tw5041800898237069697:Nat:=0
def PySem.W.Fast.tw1475873305465315938:Nat:=0
def PySem.W.Fast.tw453121116502645666:Nat:=0
def PySem.W.Fast.tw4900922405277237155:Nat:=0
def PySem.W.Fast.tw5250127270444413476:Nat:=0
def PySem.W.Fast.tw1459915138406768164:Nat:=0
def PySem.W.Fast.tw16262163138638579685:Nat:=0
def PySem.W.Fast.tw7675950766636541606:Nat:=0
def PySem.W.Fast.tw13731174729730580519:Nat:=0
def PySem.W.Fast.tw7162474442490177225:Nat:=0
def PySem.W.Fast.tw998979156288120267:Nat:=0
def PySem.W.Fast.tw11112635521152785036:Nat:=0
def PySem.W.Fast.tw6205279309011672973:Nat:=0
def PySem.W.Fast.tw18107502666418516432:Nat:=0
def PySem.W.Fast.tw17504103316790713938:Nat:=0
def PySem.W.Fast.tw7602609099018334421:Nat:=0
def PySem.W.Fast.tw6517225053262817078:Nat:=0
def PySem.W.Fast.tw957482090848590040:Nat:=0
def PySem.W.Fast.tw2971424297991445016:Nat:=0
def PySem.W.Fast.tw212823832238242392:Nat:=0
def PySem.W.Fast.tw13251539099827601240:Nat:=0
def PySem.W.Fast.tw1394119377666693401:Nat:=0
def PySem.W.Fast.tw1775383404244514650:Nat:=0
def PySem.W.Fast.tw5487782778822108605:Nat:=0
def PySem.W.Fast.tw13428464197257071581:Nat:=0
def PySem.W.Fast.tw14893080438367910078:Nat:=0
def PySem.W.Fast.tw6693488275486985854:Nat:=0
set_option maxHeartbeats 0 in
theorem PySem.Challenge.cw_osier_k04_texts_of_webs_read_holds : PySem.Challenge.rw_osier_k04_texts_of_webs_read.Holds := by
 w_on;o_law;k_head;(case hw=>w_witness2)
 k_fill
 refine Oz.agh (l:=PySem.Challenge.rw_osier_k04_texts_of_webs_read) (n:=63) (k:=44) (x:="_law_script") rfl (by decide) rfl ⟨rfl,by decide,by decide⟩ (fun w h Y=>PySem.W.kIn_of Y) ?F
 case F=>
  intro w mg fa h KX G hmg
  refine' K04.afT KX G hmg K04.abK ?_ ?_ ?_ ?_ ?_ ?_ ?_ ?_ ?_ ?_ ?_ ?_ ?_ ?_ ?_ ?_ ?_ ?_ ?_ ?_ ?_ ?_ ?_ ?_ ?_ ?_ ?_ ?_ ?_ ?_ ?_ ?_ ?_ ?_ ?_ ?_ ?_ ?_ ?_ ?_ ?_ ?_ ?_ ?_ ?_ ?_ ?_ ?_ ?_ ?_ ?_ ?_ ?_ ?_ ?_ ?_ ?_ ?_ ?_ ?_ ?_ ?_ ?_ ?_ ?_ ?_ ?_ ?_ ?_ ?_ ?_ ?xaf ?_ ?xF ?qG ?_ ?Aj ?vz ?_ ?wD ?xH ?_ ?_ ?_ ?_ ?_ ?_ ?_ ?_ ?o7 ?nW ?jE ?nM ?jF ?_ ?_ ?_ ?_ ?_ ?_ ?_ ?_ ?_ ?_ ?_ ?_ ?_ ?_ ?_ ?_ ?_ ?_ ?_ ?_ ?_ ?_ ?_ ?_ ?_ ?_ ?_ ?_ ?_ ?_ ?_
  any_goals (first | (with_reducible show _=_;k_is) | tm_at "ozFK")
  (case xaf=>tm_at "ozAF")
  (case xF=>tm_at "ozKA")
  (case qG=>refine' Oz.ae7 ?a ?b ?c ?d ?e ?f ?g ?h;(case a=>k_is);(case b=>rfl);(case c=>k_is);(case d=>k_is);(case e=>k_is);(case f=>k_is);(case g=>k_is);(case h=>k_is))
  (case Aj=>tm_at "ozKA")
  (case vz=>refine' Oz.ae7 ?a ?b ?c ?d ?e ?f ?g ?h;(case a=>k_is);(case b=>rfl);(case c=>k_is);(case d=>k_is);(case e=>k_is);(case f=>k_is);(case g=>k_is);(case h=>k_is))
  (case wD=>tm_at "ozKA")
  (case xH=>k_exc)
  (case o7=>exact (.cons rfl (.cons rfl .nil)))
  (case nW=>k_is)
  (case jE=>exact ⟨by decide,.nil⟩)
  (case nM=>k_is)
  (case jF=>exact ⟨by decide,.nil⟩)
