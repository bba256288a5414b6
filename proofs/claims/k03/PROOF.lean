import PyProof.Rows.All
import Wide.All
import OpenK.AllK
import Wide.FinOn
import HandS.ForMost
import HandS.Exc
import HandS.TryOnly
import HandS.ExcOwn
import HandS.WordsExc
import HandS.Defaults
import HandS.Small
import HandS.TupMul
import HandS.DictEq
import HandS.Dict
import PyProof.EqKinds
import HandS.RaiseMore
import HandS.More
import HandS.NoneIn
import HandS.CallSlots
import HandS.Zip
import HandS.Iter
import KE.GoesMore
import KE.GoesEnumKw
import PyProof.Rows.SetFrom
import HandS.Set
import HandS.SetTxt0
import HandS.SetBool
import HandS.SetFor
import HandS.Text
import HandS.IsInst
import PyProof.InstNe
import HandS.MakeKwOnly
import PyProof.CollectIter
import PyProof.WalksMore
import HandS.TupSets
import HandS.Keys
import HandS.Sort
import KE.KSortTupAny
import PyProof.EqAt
import HandS.EndOwn
import PyProof.Rows.RegFStrParts
import HandS.FStr
import HandS.DictComp
import HandS.SortKw
import PySem.Challenge.RW_osier_k03_webs_alike_and_as_text
set_option Elab.async false
set_option linter.all false
set_option maxRecDepth 100000
set_option maxHeartbeats 4000000
/-! Oz: a small machine of values, over which the program is told again. -/
namespace Oz
open PySem L2

/-! ### values, objects, ends -/
inductive Vl where
  | non | bl (b : Bool) | int (i : Int) | str (s : Str)
  | tup (xs : List Vl) | lst (xs : List Vl) | dct (ks : List Key) (vs : List Vl) | obj (c : Str) (ns : List Str) (vs : List Vl)
  | ref (r : Nat)
  deriving Inhabited
inductive Ob where
  | lst (xs : List Vl) | dct (ks : List Key) (vs : List Vl) | ins (c : Str) (ns : List Str) (vs : List Vl)
  deriving Inhabited
def Ob.inl : Ob → Vl
  | .lst xs => .lst xs
  | .dct ks vs => .dct ks vs
  | .ins c ns vs => .obj c ns vs
abbrev Hs := List Ob
abbrev Sg := List (Option Vl)
/-- an error: its class, its fields where it has a dict of its own -/
structure Xc where
  c : Str
  fs : Option (List Str × List Vl)
inductive Res (α : Type) where
  | ok (a : α) (S : Hs) | exc (x : Xc) (S : Hs) | bad
def Res.bind {α β : Type} (r : Res α) (f : α → Hs → Res β) : Res β := match r with
  | .ok a S => f a S
  | .exc x S => .exc x S
  | .bad => .bad
/-- what a call hands back: a value, or a thing that is new -/
inductive Rv where
  | val (v : Vl) | frs (o : Ob)
inductive Out where
  | nx (η : Sg) (S : Hs) | ret (r : Rv) (S : Hs) | brk (η : Sg) (S : Hs) | cnt (η : Sg) (S : Hs) | exc (x : Xc) (η : Sg) (S : Hs) | bad

/-! ### the relation to the hand layer's heap -/
structure Glb where
  K : PySem.W.Frag
  cl : Str → Addr
mutual
def Vl.lim (n : Nat) : Vl → Bool
  | .tup xs | .lst xs | .dct _ xs | .obj _ _ xs => limAll n xs
  | .ref r => r < n
  | _ => true
def limAll (n : Nat) : List Vl → Bool
  | [] => true
  | x :: xs => Vl.lim n x && limAll n xs
end
section
variable (G : Glb) (ρ : List Addr) (H : Hp)
/-- a list (a tuple) that is read and that nobody changes -/
def StL (a : Addr) (vs : List V) : Prop := Rd H a (.lst vs) ∧ a ∉ ρ
def StT (a : Addr) (vs : List V) : Prop := (Rd H a (.tup vs) ∧ a ∉ ρ) ∨ (SqT G.K (fun _ => none) a vs)
mutual
def VR : Vl → V → Prop
  | .non, v => v = .non
  | .bl b, v => v = .bl b
  | .int i, v => v = .int i
  | .str s, v => v = .str s
  | .tup xs, v => ∃ a vs, v = .ref a ∧ StT G ρ H a vs ∧ VRs xs vs
  | .lst xs, v => ∃ a vs, v = .ref a ∧ StL ρ H a vs ∧ VRs xs vs
  | .dct ks xs, v => ∃ a kvs, v = .ref a ∧ Rd H a (.dK kvs) ∧ a ∉ ρ ∧ kvs.map (·.1) = ks ∧ VRs xs (kvs.map (·.2))
  | .obj c ns xs, v => ∃ a dx fs, v = .ref a ∧ H a = some (.ins (G.cl c) dx fs) ∧ a ∉ ρ ∧ fs.map (·.1) = ns ∧ VRs xs (fs.map (·.2))
  | .ref r, v => ∃ a, v = .ref a ∧ ρ[r]? = some a
def VRs : List Vl → List V → Prop
  | [], vs => vs = []
  | x :: xs, vs => ∃ v r, vs = v :: r ∧ VR x v ∧ VRs xs r
end
/-- an object stands at a -/
def OR (a : Addr) : Ob → Prop
  | .lst xs => ∃ vs, H a = some (.lst vs) ∧ VRs G ρ H xs vs
  | .dct ks xs => ∃ kvs, H a = some (.dK kvs) ∧ kvs.map (·.1) = ks ∧ VRs G ρ H xs (kvs.map (·.2))
  | .ins c ns xs => ∃ dx fs, H a = some (.ins (G.cl c) dx fs) ∧ fs.map (·.1) = ns ∧ VRs G ρ H xs (fs.map (·.2))
structure Sim (S : Hs) : Prop where
  len : ρ.length = S.length
  nd : ρ.Nodup
  at_ : ∀ (r : Nat) (o : Ob) (a : Addr), S[r]? = some o → ρ[r]? = some a → OR G ρ H a o
/-- names' values -/
structure ER (η : Sg) (σ : L2.St) : Prop where
  len : η.length = σ.length
  at_ : ∀ (i : Nat) (x : Vl), η[i]? = some (some x) → ∃ v, σ[i]? = some (some v) ∧ VR G ρ H x v
end
/-- from one state to a later one: what isn't told by ρ stands -/
structure Step (ρ : List Addr) (H : Hp) (ρ' : List Addr) (H' : Hp) : Prop where
  pre : ρ <+: ρ'
  keep : ∀ a o, H a = some o → a ∉ ρ → H' a = some o
  new : ∀ a, a ∈ ρ' → a ∈ ρ ∨ H a = none
theorem Step.refl (ρ : List Addr) (H : Hp) : Step ρ H ρ H := ⟨List.prefix_refl _, fun _ _ h _ => h, fun _ h => .inl h⟩
theorem Step.trans {ρ ρ1 ρ2 : List Addr} {H H1 H2 : Hp} (a : Step ρ H ρ1 H1) (b : Step ρ1 H1 ρ2 H2) : Step ρ H ρ2 H2 := by
  refine ⟨a.pre.trans b.pre, fun x o h n => ?_, fun x h => ?_⟩
  · have n1 : x ∉ ρ1 := fun q => (a.new x q).elim n fun z => by rw [h] at z; cases z
    exact b.keep x o (a.keep x o h n) n1
  · rcases b.new x h with h | h
    · exact a.new x h
    · by_cases n : x ∈ ρ
      · exact .inl n
      · refine .inr ?_
        cases q : H x with
        | none => rfl
        | some o => rw [a.keep x o q n] at h; cases h
theorem Step.out {ρ ρ' : List Addr} {H H' : Hp} (a : Step ρ H ρ' H') {x : Addr} {o : HO} (h : H x = some o) (n : x ∉ ρ) : x ∉ ρ' := fun q => (a.new x q).elim n fun z => by rw [h] at z; cases z
/-- the same, where foreign things (sets) may change -/
structure StepX (ρ : List Addr) (H : Hp) (ρ' : List Addr) (H' : Hp) : Prop where
  pre : ρ <+: ρ'
  keep : ∀ a o, H a = some o → a ∉ ρ → (∀ φ, o ≠ .ext φ) → H' a = some o
  ext : ∀ a φ, H a = some (.ext φ) → a ∉ ρ → ∃ ψ, H' a = some (.ext ψ)
  new : ∀ a, a ∈ ρ' → a ∈ ρ ∨ H a = none
theorem Step.x {ρ ρ' : List Addr} {H H' : Hp} (a : Step ρ H ρ' H') : StepX ρ H ρ' H' := ⟨a.pre, fun x o h n _ => a.keep x o h n, fun x φ h n => ⟨φ, a.keep x _ h n⟩, a.new⟩
theorem StepX.trans {ρ ρ1 ρ2 : List Addr} {H H1 H2 : Hp} (a : StepX ρ H ρ1 H1) (b : StepX ρ1 H1 ρ2 H2) : StepX ρ H ρ2 H2 := by
  have there : ∀ x o, H x = some o → x ∉ ρ → ∃ u, H1 x = some u := fun x o h n => by
    by_cases e : ∃ φ, o = .ext φ
    · obtain ⟨φ, rfl⟩ := e
      obtain ⟨ψ, q⟩ := a.ext x φ h n
      exact ⟨_, q⟩
    · exact ⟨o, a.keep x o h n fun φ q => e ⟨φ, q⟩⟩
  have n1 : ∀ x o, H x = some o → x ∉ ρ → x ∉ ρ1 := fun x o h n q => (a.new x q).elim n fun z => by rw [h] at z; cases z
  refine ⟨a.pre.trans b.pre, fun x o h n e => b.keep x o (a.keep x o h n e) (n1 x o h n) e, fun x φ h n => ?_, fun x h => ?_⟩
  · obtain ⟨ψ, q⟩ := a.ext x φ h n
    exact b.ext x ψ q (n1 x _ h n)
  · rcases b.new x h with h | h
    · exact a.new x h
    · by_cases n : x ∈ ρ
      · exact .inl n
      · refine .inr ?_
        cases q : H x with
        | none => rfl
        | some o =>
          obtain ⟨u, hu⟩ := there x o q n
          rw [hu] at h; cases h
theorem StepX.out {ρ ρ' : List Addr} {H H' : Hp} (a : StepX ρ H ρ' H') {x : Addr} {o : HO} (h : H x = some o) (n : x ∉ ρ) : x ∉ ρ' := fun q => (a.new x q).elim n fun z => by rw [h] at z; cases z
section
variable {G : Glb} {ρ ρ' : List Addr} {H H' : Hp}
theorem StepX.rd (a : StepX ρ H ρ' H') {x : Addr} {o : HO} (hx : ∀ φ, o ≠ .ext φ) (h : Rd H x o ∧ x ∉ ρ) : Rd H' x o ∧ x ∉ ρ' := by
  obtain ⟨h, n⟩ := h
  rcases h with h | ⟨ob, h⟩
  · exact ⟨.inl (a.keep _ _ h n hx), a.out h n⟩
  · exact ⟨.inr ⟨ob, a.keep _ _ h n (by intro φ q; cases q)⟩, a.out h n⟩
theorem StL.stepX (a : StepX ρ H ρ' H') {x : Addr} {vs : List V} (h : StL ρ H x vs) : StL ρ' H' x vs := a.rd (by intro φ q; cases q) h
theorem StT.stepX (a : StepX ρ H ρ' H') {x : Addr} {vs : List V} (h : StT G ρ H x vs) : StT G ρ' H' x vs := h.imp (a.rd (by intro φ q; cases q)) id
theorem StL.sq {K : PySem.W.Frag} {x : Addr} {vs : List V} (h : StL ρ H x vs) : SqL K H x vs := .inl h.1
theorem StT.sq {x : Addr} {vs : List V} (h : StT G ρ H x vs) : SqT G.K H x vs := by
  rcases h with ⟨h, _⟩ | h
  · exact .inl h
  · rcases h with (h | ⟨_, h⟩) | h
    · cases h
    · cases h
    · exact .inr h
mutual
theorem VR.stepX (a : StepX ρ H ρ' H') : ∀ (x : Vl) (v : V), VR G ρ H x v → VR G ρ' H' x v
  | .non, _, h | .bl _, _, h | .int _, _, h | .str _, _, h => by simpa only [VR] using h
  | .tup xs, v, h => by
    simp only [VR] at h ⊢
    obtain ⟨p, vs, e, h1, h2⟩ := h
    exact ⟨p, vs, e, h1.stepX a, VRs.stepX a xs vs h2⟩
  | .lst xs, v, h => by
    simp only [VR] at h ⊢
    obtain ⟨p, vs, e, h1, h2⟩ := h
    exact ⟨p, vs, e, h1.stepX a, VRs.stepX a xs vs h2⟩
  | .dct ks xs, v, h => by
    simp only [VR] at h ⊢
    obtain ⟨p, kvs, e, h1, n, h2, h3⟩ := h
    have h4 := a.rd (by intro φ q; cases q) ⟨h1, n⟩
    exact ⟨p, kvs, e, h4.1, h4.2, h2, VRs.stepX a xs _ h3⟩
  | .obj c ns xs, v, h => by
    simp only [VR] at h ⊢
    obtain ⟨p, dx, fs, e, h1, n, h2, h3⟩ := h
    exact ⟨p, dx, fs, e, a.keep _ _ h1 n (by intro φ q; cases q), a.out h1 n, h2, VRs.stepX a xs _ h3⟩
  | .ref r, v, h => by
    simp only [VR] at h ⊢
    obtain ⟨p, e, h1⟩ := h
    obtain ⟨t, ht⟩ := a.pre
    exact ⟨p, e, by rw [← ht]; exact (List.getElem?_append_left (List.getElem?_eq_some_iff.mp h1).1).trans h1⟩
theorem VRs.stepX (a : StepX ρ H ρ' H') : ∀ (xs : List Vl) (vs : List V), VRs G ρ H xs vs → VRs G ρ' H' xs vs
  | [], _, h => by simpa only [VRs] using h
  | x :: xs, vs, h => by
    simp only [VRs] at h ⊢
    obtain ⟨v, r, e, h1, h2⟩ := h
    exact ⟨v, r, e, VR.stepX a x v h1, VRs.stepX a xs r h2⟩
end
theorem StL.step (a : Step ρ H ρ' H') {x : Addr} {vs : List V} (h : StL ρ H x vs) : StL ρ' H' x vs := h.stepX a.x
theorem StT.step (a : Step ρ H ρ' H') {x : Addr} {vs : List V} (h : StT G ρ H x vs) : StT G ρ' H' x vs := h.stepX a.x
theorem Step.rd (a : Step ρ H ρ' H') {x : Addr} {o : HO} (h : Rd H x o ∧ x ∉ ρ) : Rd H' x o ∧ x ∉ ρ' := by
  obtain ⟨h, n⟩ := h
  rcases h with h | ⟨ob, h⟩
  · exact ⟨.inl (a.keep _ _ h n), a.out h n⟩
  · exact ⟨.inr ⟨ob, a.keep _ _ h n⟩, a.out h n⟩
theorem VR.step (a : Step ρ H ρ' H') (x : Vl) (v : V) (h : VR G ρ H x v) : VR G ρ' H' x v := VR.stepX a.x x v h
theorem VRs.step (a : Step ρ H ρ' H') (xs : List Vl) (vs : List V) (h : VRs G ρ H xs vs) : VRs G ρ' H' xs vs := VRs.stepX a.x xs vs h
theorem ER.stepX (a : StepX ρ H ρ' H') {η : Sg} {σ : L2.St} (h : ER G ρ H η σ) : ER G ρ' H' η σ := ⟨h.len, fun i x e => let ⟨v, h1, h2⟩ := h.at_ i x e; ⟨v, h1, h2.stepX a⟩⟩
theorem ER.step (a : Step ρ H ρ' H') {η : Sg} {σ : L2.St} (h : ER G ρ H η σ) : ER G ρ' H' η σ := h.stepX a.x
theorem VRs.length : ∀ {xs : List Vl} {vs : List V}, VRs G ρ H xs vs → xs.length = vs.length
  | [], _, h => by simp only [VRs] at h; subst h; rfl
  | x :: xs, vs, h => by
    simp only [VRs] at h
    obtain ⟨v, r, rfl, h1, h2⟩ := h
    simp [VRs.length h2]
theorem VRs.get : ∀ {xs : List Vl} {vs : List V} {i : Nat} {x : Vl}, VRs G ρ H xs vs → xs[i]? = some x → ∃ v, vs[i]? = some v ∧ VR G ρ H x v
  | [], _, _, _, _, e => by simp at e
  | y :: xs, vs, 0, x, h, e => by
    simp only [VRs] at h
    obtain ⟨v, r, rfl, h1, h2⟩ := h
    simp at e; subst e
    exact ⟨v, by simp, h1⟩
  | y :: xs, vs, i + 1, x, h, e => by
    simp only [VRs] at h
    obtain ⟨v, r, rfl, h1, h2⟩ := h
    obtain ⟨w, e1, e2⟩ := VRs.get (i := i) h2 (by simpa using e)
    exact ⟨w, by simpa using e1, e2⟩
theorem VRs.append : ∀ {xs ys : List Vl} {vs ws : List V}, VRs G ρ H xs vs → VRs G ρ H ys ws → VRs G ρ H (xs ++ ys) (vs ++ ws)
  | [], ys, vs, ws, h, k => by simp only [VRs] at h; subst h; exact k
  | x :: xs, ys, vs, ws, h, k => by
    simp only [VRs] at h
    obtain ⟨v, r, rfl, h1, h2⟩ := h
    show VRs G ρ H (x :: (xs ++ ys)) (v :: (r ++ ws))
    simp only [VRs]
    exact ⟨v, _, rfl, h1, VRs.append h2 k⟩
theorem VRs.nil : VRs G ρ H [] [] := by simp only [VRs]
theorem VRs.cons {x : Vl} {xs : List Vl} {v : V} {vs : List V} (h : VR G ρ H x v) (k : VRs G ρ H xs vs) : VRs G ρ H (x :: xs) (v :: vs) := by simp only [VRs]; exact ⟨v, vs, rfl, h, k⟩
theorem VRs.of_get : ∀ {xs : List Vl} {vs : List V}, xs.length = vs.length → (∀ (i : Nat) (x : Vl) (v : V), xs[i]? = some x → vs[i]? = some v → VR G ρ H x v) → VRs G ρ H xs vs
  | [], [], _, _ => VRs.nil
  | [], _ :: _, h, _ => by simp at h
  | _ :: _, [], h, _ => by simp at h
  | x :: xs, v :: vs, h, k => VRs.cons (k 0 x v rfl rfl) (VRs.of_get (by simpa using h) fun i y w e1 e2 => k (i + 1) y w (by simpa using e1) (by simpa using e2))
theorem VRs.take (n : Nat) {xs : List Vl} {vs : List V} (h : VRs G ρ H xs vs) : VRs G ρ H (xs.take n) (vs.take n) := VRs.of_get (by simp [h.length]) fun i x v e1 e2 => by
  rw [List.getElem?_take] at e1 e2
  split at e1
  · rename_i c
    rw [if_pos c] at e2
    obtain ⟨w, e3, e4⟩ := h.get e1
    rw [e2] at e3; cases e3
    exact e4
  · cases e1
theorem VRs.drop (n : Nat) {xs : List Vl} {vs : List V} (h : VRs G ρ H xs vs) : VRs G ρ H (xs.drop n) (vs.drop n) := VRs.of_get (by simp [h.length]) fun i x v e1 e2 => by
  rw [List.getElem?_drop] at e1 e2
  obtain ⟨w, e3, e4⟩ := h.get e1
  rw [e2] at e3; cases e3
  exact e4
end
end Oz
set_option Elab.async false
set_option linter.all false
set_option maxRecDepth 100000
set_option maxHeartbeats 4000000
/-! Oz: the code and what it does. -/
namespace Oz
open PySem L2

mutual
inductive Tg where
  | nm (i : Nat) | tp (ts : Tgs)
inductive Tgs where
  | nil | cons (t : Tg) (ts : Tgs)
end
inductive B1 where
  | len | all | any | tuple | repr | str | int | sum
/-- methods of texts and of lists that are only read -/
inductive Tm where
  | join | index | count
/-- methods that change a list -/
inductive Mm where
  | append | pop | popAt | clear | extend | insert
mutual
inductive E where
  | var (i : Nat) | cst (v : Vl)
  | bin (op : Operator) (a b : E) | cmp (op : CmpOp) (a b : E) | chn (p q : CmpOp) (a b c : E)
  | band (a b : E) | bor (a b : E) | bnot (a : E) | tru (a : E) | neg (a : E)
  | ite (t a b : E)
  | tup (es : Es)
  | idx (a i : E) | slt (a : E) (lo hi : Oe)
  | kin (g : Str) (ng : Bool) (a : E) | kget (g : Str) (a : E)
  | b1 (f : B1) (a : E)
  | isD (a : E) | isC (c : Str) (a : E)
  | call (q : Str) (es : Es) | mcl (c m : Str) (a : E) (es : Es)
  | fld (a : E) (f : Str)
  | tm (m : Tm) (a b : E)
  | mut (m : Mm) (a : E) (es : Es)
  | olen (c : Str) (a : E) | oeq (c : Str) (ng : Bool) (a b : E)
  | inl (f : F) | alc (f : F) | bad
  | fs (es : Es) | orepr (c : Str) (a : E) | mn (a b : E)
inductive F where
  | lst (es : Es) | cat (a b : E) | rep (a b : E) | slc (a : E) (lo hi : Oe) | cpy (a : E) | srt (a : E)
  | comp (own : List Nat) (elt : E) (t : Tg) (s : Src) (ifs : Es)
  | call (q : Str) (es : Es) | mcl (c m : Str) (a : E) (es : Es)
  | dsp (ks : List Str) (vs : Es) | new (c : Str) (es : Es)
  | split (a b : E) | sset (a : E) | scomp2 (own : List Nat) (elt : E) (t : Tg) (s : Src) (ifs : Es) (vs1 : List Nat) (t1 : Tg) (s1 : Src) (ifs1 : Es) | bad
  | dspk (ks : List Key) (vs : Es) | dcomp (own : List Nat) (ke ve : E) (t : Tg) (s : Src) (ifs : Es) | icomp (own : List Nat) (elt : E) (t : Tg) (i : Nat) (ifs : Es)
  | srtp (a : E) | srtd (a : E) | dctp (a : E)
inductive Src where
  | sq (e : E) | rng1 (e : E) | rng2 (a b : E) | enm (e : E) (st : Int) | zip (a b : E) | chars (e : E) | items (e : E)
inductive Es where
  | nil | cons (e : E) (es : Es)
inductive Oe where
  | none | some (e : E)
end
mutual
inductive C where
  | asg (t : Tg) (e : E) | star (is : List Nat) (i : Nat) (e : E) | par (i j : Nat) (a b : E)
  | fset (a : E) (f : Str) (e : E) | iset (o i e : E) | iset2 (o1 i1 o2 i2 e : E)
  | aug (i : Nat) (op : Operator) (e : E)
  | ex (e : E) | ret (e : E) | retf (f : F) | retn
  | ite (t : E) (a b : Cs)
  | for_ (t : Tg) (s : Src) (b : Cs) | whl (t : E) (b : Cs)
  | raise (c : Str) (es : Es)
  | pass | brk | cnt | bad
inductive Cs where
  | nil | cons (c : C) (cs : Cs)
end

structure Mach where
  cal : Str → List Vl → Hs → Res Rv
  kd : Str → Option (List (Str × Vl))
  fuel : Nat

/-! ### operations on values -/
mutual
def Vl.mapRef (f : Nat → Vl) : Vl → Vl
  | .tup xs => .tup (mapRefs f xs)
  | .lst xs => .lst (mapRefs f xs)
  | .dct ks xs => .dct ks (mapRefs f xs)
  | .obj c ns xs => .obj c ns (mapRefs f xs)
  | .ref r => f r
  | .non => .non | .bl b => .bl b | .int i => .int i | .str s => .str s
def mapRefs (f : Nat → Vl) : List Vl → List Vl
  | [] => []
  | x :: xs => Vl.mapRef f x :: mapRefs f xs
end
/-- what stands behind references, told whole -/
def inlS : Nat → Hs → Vl → Vl
  | 0, _, v => v.mapRef .ref
  | k + 1, S, v => v.mapRef fun r => match S[r]? with
    | some o => inlS k S o.inl
    | none => .ref r
mutual
def Vl.toD : Vl → Option PyData
  | .non => some .none
  | .bl b => some (.bool b)
  | .int i => some (.int i)
  | .str s => some (.str s)
  | .tup xs => (toDs xs).map .tuple
  | .lst xs => (toDs xs).map .list
  | _ => none
def toDs : List Vl → Option (List PyData)
  | [] => some []
  | x :: xs => match Vl.toD x, toDs xs with
    | some d, some ds => some (d :: ds)
    | _, _ => none
end
def depS : Nat := 4
def dataOf (S : Hs) (v : Vl) : Option PyData := (inlS depS S v).toD
/-- the items of a list or a tuple -/
def seqOf (S : Hs) : Vl → Option (List Vl)
  | .tup xs => some xs
  | .lst xs => some xs
  | .ref r => match S[r]? with
    | some (.lst xs) => some xs
    | _ => none
  | _ => none
def lstOf (S : Hs) : Vl → Option (List Vl)
  | .lst xs => some xs
  | .ref r => match S[r]? with
    | some (.lst xs) => some xs
    | _ => none
  | _ => none
/-- a list that may change -/
def lstAt (S : Hs) : Vl → Option Nat
  | .ref r => match S[r]? with
    | some (.lst _) => some r
    | _ => none
  | _ => none
def dctOf (S : Hs) : Vl → Option (List Key × List Vl)
  | .dct ks xs => some (ks, xs)
  | .ref r => match S[r]? with
    | some (.dct ks xs) => some (ks, xs)
    | _ => none
  | _ => none
def insOf (S : Hs) : Vl → Option (Str × List Str × List Vl)
  | .obj c ns xs => some (c, ns, xs)
  | .ref r => match S[r]? with
    | some (.ins c ns xs) => some (c, ns, xs)
    | _ => none
  | _ => none
def Vl.key : Vl → Option Key
  | .int i => some (.inl i)
  | .str s => some (.inr s)
  | _ => none
def lookG {κ : Type} [DecidableEq κ] : List κ → List Vl → κ → Option Vl
  | k :: ks, v :: vs, x => if k = x then some v else lookG ks vs x
  | _, _, _ => none
def putG {κ : Type} [DecidableEq κ] : List κ → List Vl → κ → Vl → List κ × List Vl
  | k :: ks, v :: vs, x, y => if k = x then (k :: ks, y :: vs) else let r := putG ks vs x y; (k :: r.1, v :: r.2)
  | _, _, x, y => ([x], [y])
def Vl.flat : Vl → Bool
  | .non | .bl _ | .int _ | .str _ => true
  | _ => false
def eqF : Vl → Vl → Bool
  | .non, .non => true
  | .bl a, .bl b => a == b
  | .bl a, .int b => (if a then 1 else 0) == b
  | .int a, .bl b => a == (if b then 1 else 0)
  | .int a, .int b => a == b
  | .str a, .str b => a == b
  | _, _ => false
def Vl.isNon : Vl → Bool
  | .non => true
  | _ => false
def mulOk (i j : Int) : Bool := (-(2 ^ 64) < i && i < 2 ^ 64) || (-(2 ^ 64) < j && j < 2 ^ 64)
def binop (op : Operator) (x y : Vl) : Option Vl := match op, x, y with
  | .Add, .int i, .int j => some (.int (i + j))
  | .Add, .str i, .str j => if i.length + j.length ≤ sizeLine then some (.str (i ++ j)) else none
  | .Add, .tup xs, .tup ys => if xs.length + ys.length ≤ sizeLine ∧ xs ≠ [] then some (.tup (xs ++ ys)) else none
  | .Sub, .int i, .int j => some (.int (i - j))
  | .Mult, .int i, .int j => if mulOk i j then some (.int (i * j)) else none
  | .Mult, .tup xs, .int n => if xs ≠ [] ∧ 0 ≤ n ∧ n ≤ 1000 ∧ xs.length ≤ 1000 then some (.tup (List.replicate n.toNat xs).flatten) else none
  | .FloorDiv, .int i, .int j => if 0 < j ∧ j < 1073741824 then some (.int (i / j)) else none
  | .Mod, .int i, .int j => if 0 < j then some (.int (i % j)) else none
  | .Pow, .int i, .int j => if 0 ≤ j ∧ j ≤ 1000000 ∧ i.natAbs < 2 ^ 64 then some (.int (i ^ j.toNat)) else none
  | _, _, _ => none
def dataEq (S : Hs) (x y : Vl) : Option Bool := match dataOf S x, dataOf S y with
  | some d, some e => if SeqAt.shaped d ∧ SeqAt.shaped e then some (PyData.eqv d e) else none
  | _, _ => none
/-- ==, of scalars, of data -/
def eqS : Vl → Vl → Option Bool
  | .int i, .int j => some (decide (i = j))
  | .bl i, .bl j => some (decide (i = j))
  | .str i, .str j => some (decide (i = j))
  | _, _ => none
/-- dicts: how the values of the first stand against the second -/
def hitsD (S : Hs) : List Key → List Vl → List Key → List Vl → Option Bool
  | k :: ks, v :: vs, ks', vs' => match lookG ks' vs' k with
    | none => some false
    | some w => match eqS v w with
      | some e => (hitsD S ks vs ks' vs').map fun b => e && b
      | none => none
  | _, _, _, _ => some true
def eqDct (S : Hs) (x y : Vl) : Option Bool := match dctOf S x, dctOf S y with
  | some (ks, vs), some (ks', vs') => if ks.length = ks'.length then hitsD S ks vs ks' vs' else some false
  | _, _ => none
def eqop (S : Hs) (x y : Vl) : Option Bool := match eqS x y with
  | some b => some b
  | none => match eqDct S x y with
    | some b => some b
    | none => dataEq S x y
def memF (S : Hs) (x y : Vl) : Option Bool := match y with
  | .str z => match x with
    | .str w => if w.length = 1 then some (decide (w.cps.getD 0 0 ∈ z.cps.toList)) else none
    | _ => none
  | _ => match dctOf S y with
    | some (ks, _) => x.key.map fun k => ks.any fun j => decide (j = k)
    | none => match seqOf S y with
      | some ys => if x.flat && ys.all Vl.flat then some (ys.any fun z => eqF z x) else none
      | none => none
def cmpop (op : CmpOp) (S : Hs) (x y : Vl) : Option Bool := match op with
  | .Eq => eqop S x y
  | .NotEq => if (eqDct S x y).isSome then none else (eqop S x y).map not
  | .Lt => match x, y with
    | .int i, .int j => some (decide (i < j))
    | _, _ => none
  | .LtE => match x, y with
    | .int i, .int j => some (decide (i ≤ j))
    | _, _ => none
  | .Gt => match x, y with
    | .int i, .int j => some (decide (j < i))
    | _, _ => none
  | .GtE => match x, y with
    | .int i, .int j => some (decide (j ≤ i))
    | _, _ => none
  | .Is => match y with
    | .non => some x.isNon
    | _ => none
  | .IsNot => match y with
    | .non => some (!x.isNon)
    | _ => none
  | .In => memF S x y
  | .NotIn => (memF S x y).map not
def isBl : Vl → Option Bool
  | .bl b => some b
  | _ => none
def truth (S : Hs) (x : Vl) : Option Bool := match x with
  | .non => some false
  | .bl b => some b
  | .int i => some (i != 0)
  | .str y => if y.length ≤ sizeLine then some ((y.length : Int) != 0) else none
  | _ => match seqOf S x with
    | some ys => some (!ys.isEmpty)
    | none => none
def allB : List Vl → Option (List Bool)
  | [] => some []
  | x :: xs => match isBl x, allB xs with
    | some b, some bs => some (b :: bs)
    | _, _ => none
def allI : List Vl → Option (List Int)
  | [] => some []
  | .int i :: xs => (allI xs).map (i :: ·)
  | _ => none
def allS : List Vl → Option (List Str)
  | [] => some []
  | .str i :: xs => (allS xs).map (i :: ·)
  | _ => none
def b1op (f : B1) (S : Hs) (x : Vl) : Option Vl := match f with
  | .len => match x with
    | .str z => if z.length ≤ sizeLine then some (.int z.length) else none
    | _ => match dctOf S x with
      | some (ks, _) => some (.int ks.length)
      | none => (seqOf S x).map fun ys => .int ys.length
  | .all => ((lstOf S x).bind allB).map fun bs => .bl (bs.all id)
  | .any => ((lstOf S x).bind allB).map fun bs => .bl (bs.any id)
  | .tuple => (seqOf S x).map .tup
  | .repr => match dataOf S x with
    | some d => if d.showable = true ∧ d.shown.length ≤ sizeLine ∧ d.canLay0 = true ∧ d.depth ≤ 60 then some (.str d.shown) else none
    | none => none
  | .str => match x with
    | .int i => if i.natAbs.log2 < 1920 then some (.str (toString i)) else none
    | .str z => some (.str z)
    | _ => none
  | .int => match x with
    | .bl b => some (.int (if b then 1 else 0))
    | .int i => some (.int i)
    | _ => none
  | .sum => ((lstOf S x).bind allI).map fun ns => .int ns.sum
def idxop (S : Hs) (x i : Vl) : Option Vl := match x, i with
  | .str z, .int i => if z.length ≤ sizeLine then (atI z.cps.toList i).map fun c => .str ⟨#[c]⟩ else none
  | x, i => match dctOf S x with
    | some (ks, vs) => i.key.bind fun k => lookG ks vs k
    | none => match seqOf S x, i with
      | some ys, .int i => atI ys i
      | _, _ => none
def cutG {α : Type} (xs : List α) (lo hi : Option Int) : List α := (xs.drop (HT.sIx xs.length 0 lo)).take (HT.sIx xs.length xs.length hi - HT.sIx xs.length 0 lo)
def sltop (x : Vl) (lo hi : Option Int) : Option Vl := match x with
  | .str z => if z.length ≤ sizeLine then some (.str (cutS z lo hi)) else none
  | .tup xs => if HT.sIx xs.length 0 lo = 0 ∧ HT.sIx xs.length xs.length hi = xs.length then none else some (.tup (cutG xs lo hi))
  | _ => none
/-- what changes: the answer, the list behind it -/
def mutop (m : Mm) (xs : List Vl) (es : List Vl) : Option (Vl × List Vl) := match m, es with
  | .append, [y] => if xs.length < sizeLine then some (.non, xs ++ [y]) else none
  | .pop, [] => match xs[xs.length - 1]? with
    | some y => some (y, xs.dropLast)
    | none => none
  | .popAt, [.int i] => if -(2 ^ 63) ≤ i ∧ i < 2 ^ 63 then (seqIndex? i xs.length).bind fun k => xs[k]?.map fun y => (y, xs.eraseIdx k) else none
  | .clear, [] => some (.non, [])
  | _, _ => none
def tmop (m : Tm) (S : Hs) (z : Str) (y : Vl) : Option Vl := match m with
  | .join => match (seqOf S y).bind allS with
    | some ys => if (ys.map (·.length)).sum + ys.length * z.length ≤ 16777216 then some (.str (Txt.join z ys)) else none
    | none => none
  | _ => none
/-- texts by their signs -/
def strLt (a b : Str) : Bool := decide (a.cps.toList < b.cps.toList)
def insStr (x : Str) : List Str → List Str
  | [] => [x]
  | y :: ys => if strLt y x then y :: insStr x ys else x :: y :: ys
def sortStr : List Str → List Str
  | [] => []
  | x :: xs => insStr x (sortStr xs)
def srtop (S : Hs) (x : Vl) : Option (List Vl) := match (lstOf S x).bind allS with
  | some zs => if zs.length < 64 then some ((sortStr zs).map .str) else none
  | none => none

/-- sorted dicts' keys -/
def allK : List Key → Option (List Str)
  | [] => some []
  | .inr z :: ks => (allK ks).map (z :: ·)
  | .inl _ :: _ => none
def srtdop (S : Hs) (x : Vl) : Option (List Vl) := match dctOf S x with
  | some (ks, _) => match allK ks with
    | some zs => if zs.length < 64 then some ((sortStr zs).map .str) else none
    | none => none
  | none => none
/-- pairs whose first thing is a text -/
def allP : List Vl → Option (List (Str × Vl))
  | [] => some []
  | .tup [.str z, y] :: xs => (allP xs).map ((z, y) :: ·)
  | _ => none
def insP (x : Str × Vl) : List (Str × Vl) → List (Str × Vl)
  | [] => [x]
  | y :: ys => if strLt y.1 x.1 then y :: insP x ys else x :: y :: ys
def sortP : List (Str × Vl) → List (Str × Vl)
  | [] => []
  | x :: xs => insP x (sortP xs)
def prV (p : Str × Vl) : Vl := .tup [.str p.1, p.2]
def srtpop (S : Hs) (x : Vl) : Option (List Vl) := match (seqOf S x).bind allP with
  | some zs => if zs.length < 64 ∧ (zs.map (·.1)).Nodup then some ((sortP zs).map prV) else none
  | none => none
/-! ### dicts written -/
def repD (k : Key) (y : Vl) : List Key → List Vl → List Vl
  | j :: ks, v :: vs => (if j = k then y else v) :: repD k y ks vs
  | _, _ => []
def putD (ks : List Key) (vs : List Vl) (k : Key) (y : Vl) : List Key × List Vl := if (ks.any fun j => decide (j = k)) = true then (ks, repD k y ks vs) else (ks ++ [k], vs ++ [y])
def mergeD : List (Key × Vl) → List Key → List Vl → List Key × List Vl
  | [], ks, vs => (ks, vs)
  | p :: ps, ks, vs => mergeD ps (putD ks vs p.1 p.2).1 (putD ks vs p.1 p.2).2
def allKP : List Vl → Option (List (Key × Vl))
  | [] => some []
  | .tup [x, y] :: xs => match x.key with
    | some k => (allKP xs).map ((k, y) :: ·)
    | none => none
  | _ => none
def dctpop (S : Hs) (x : Vl) : Option Ob := match (lstOf S x).bind allKP with
  | some ps => let q := mergeD ps [] []; some (.dct q.1 q.2)
  | none => none
/-- x[k] = y -/
def isetS (S : Hs) (x k y : Vl) : Option Hs := match x with
  | .ref r => match S[r]? with
    | some (.dct ks vs) => match k.key with
      | some k => if ks.length < sizeLine then let q := putD ks vs k y; some (S.set r (.dct q.1 q.2)) else none
      | none => none
    | some (.lst xs) => match k with
      | .int i => match ixN xs.length i with
        | some j => some (S.set r (.lst (xs.set j y)))
        | none => none
      | _ => none
    | _ => none
  | _ => none
/-- texts one behind the other -/
def fsPart : Vl → Option Str
  | .str y => if y.length ≤ sizeLine then some y else none
  | .int i => if i.natAbs.log2 < 1920 then some (toString i) else none
  | _ => none
def fsop : List Vl → Str → Option Str
  | [], acc => some acc
  | x :: xs, acc => match fsPart x with
    | some y => if (acc ++ y).length ≤ sizeLine then fsop xs (acc ++ y) else none
    | none => none

/-! ### targets -/
mutual
def bindT : Tg → Vl → Sg → Option Sg
  | .nm i, x, η => some (η.set i (some x))
  | .tp ts, x, η => match x with
    | .tup xs => bindTs ts xs η
    | .lst xs => bindTs ts xs η
    | _ => none
def bindTs : Tgs → List Vl → Sg → Option Sg
  | .nil, [], η => some η
  | .cons t ts, x :: xs, η => match bindT t x η with
    | some η1 => bindTs ts xs η1
    | none => none
  | _, _, _ => none
end
def bindN : List Nat → List Vl → Sg → Option (Sg × List Vl)
  | [], xs, η => some (η, xs)
  | i :: is, x :: xs, η => bindN is xs (η.set i (some x))
  | _ :: _, [], _ => none
def wipeG (η : Sg) : List Nat → Sg
  | [] => η
  | v :: vs => (wipeG η vs).set v none

/-! ### loops -/
def ofO {α : Type} (S : Hs) : Option α → Res α
  | some a => .ok a S
  | none => .bad
/-- what is walked stands as it stood -/
abbrev Lk := Nat × Ob
def lockd (lk : List Lk) (S : Hs) : Prop := ∀ p ∈ lk, S[p.1]? = some p.2
open Classical in
/-- a comprehension's turns: the new list stands behind the others -/
noncomputable def compL (step : Vl → Hs → Res (Option Vl)) (lk : List Lk) : List Vl → List Vl → Hs → Res (List Vl)
  | [], acc, S => if lockd lk S then .ok acc S else .bad
  | x :: xs, acc, S => if lockd lk S then match step x (S ++ [.lst acc]) with
      | .ok o T => if T = S ++ [.lst acc] ∧ acc.length < sizeLine then match o with
        | some y => if y.lim S.length then compL step lk xs (acc ++ [y]) S else .bad
        | none => compL step lk xs acc S
        else .bad
      | _ => .bad
    else .bad
open Classical in
/-- a dict comprehension's turns -/
noncomputable def compD (step : Vl → Hs → Res (Option (Vl × Vl))) (lk : List Lk) : List Vl → List Key → List Vl → Hs → Res (List Key × List Vl)
  | [], ks, vs, S => if lockd lk S then .ok (ks, vs) S else .bad
  | x :: xs, ks, vs, S => if lockd lk S then match step x (S ++ [.dct ks vs]) with
      | .ok o T => if T = S ++ [.dct ks vs] ∧ ks.length < sizeLine then match o with
        | some (k, y) => match k.key with
          | some k => if y.lim S.length then compD step lk xs (putD ks vs k y).1 (putD ks vs k y).2 S else .bad
          | none => .bad
        | none => compD step lk xs ks vs S
        else .bad
      | _ => .bad
    else .bad
open Classical in
/-- texts that go into a set -/
noncomputable def compS (step : Vl → Hs → Res (List Str)) (lk : List Lk) : List Vl → Hs → Res (List Str)
  | [], S => if lockd lk S then .ok [] S else .bad
  | x :: xs, S => if lockd lk S then match step x S with
      | .ok ys T => if T = S then (compS step lk xs S).bind fun zs S1 => .ok (ys ++ zs) S1 else .bad
      | _ => .bad
    else .bad
open Classical in
noncomputable def forL (body : Sg → Hs → Out) (t : Tg) (lk : List Lk) : List Vl → Sg → Hs → Out
  | [], η, S => if lockd lk S then .nx η S else .bad
  | x :: xs, η, S => if lockd lk S then match bindT t x η with
    | none => .bad
    | some η1 => match body η1 S with
      | .nx η2 S2 => forL body t lk xs η2 S2
      | .cnt η2 S2 => forL body t lk xs η2 S2
      | .brk η2 S2 => .nx η2 S2
      | o => o
    else .bad
def whlL (test : Sg → Hs → Res Vl) (body : Sg → Hs → Out) : Nat → Sg → Hs → Out
  | 0, _, _ => .bad
  | n + 1, η, S => match test η S with
    | .ok (.bl true) S1 => match body η S1 with
      | .nx η2 S2 => whlL test body n η2 S2
      | .cnt η2 S2 => whlL test body n η2 S2
      | .brk η2 S2 => .nx η2 S2
      | o => o
    | .ok (.bl false) S1 => .nx η S1
    | .exc x S1 => .exc x η S1
    | _ => .bad
def enumL : Int → List Vl → List Vl
  | _, [] => []
  | i, x :: xs => .tup [.int i, x] :: enumL (i + 1) xs
def zipL : List Vl → List Vl → List Vl
  | x :: xs, y :: ys => .tup [x, y] :: zipL xs ys
  | _, _ => []
def rngL (lo : Int) : Nat → List Vl
  | 0 => []
  | n + 1 => .int lo :: rngL (lo + 1) n
def itemsL : List Key → List Vl → List Vl
  | k :: ks, v :: vs => .tup [match k with | .inl i => .int i | .inr s => .str s, v] :: itemsL ks vs
  | _, _ => []
/-- a list or a tuple that is walked, what is locked by it -/
def walkS (S : Hs) : Vl → Option (List Lk × List Vl)
  | .tup xs => some ([], xs)
  | .lst xs => some ([], xs)
  | .ref r => match S[r]? with
    | some (.lst xs) => some ([(r, .lst xs)], xs)
    | _ => none
  | _ => none
def charsL (z : Str) : List Vl := z.cps.toList.map fun c => .str ⟨#[c]⟩
def Rv.v : Rv → Vl
  | .val v => v
  | .frs o => o.inl

/-- the same, or a text -/
def walkT (S : Hs) : Vl → Option (List Lk × List Vl)
  | .str z => some ([], charsL z)
  | x => walkS S x
def dedupS : List Str → List Str
  | [] => []
  | x :: xs => if x ∈ xs then dedupS xs else x :: dedupS xs
/-! ### what code does -/
variable (M : Mach)
/-- the answer of a call -/
def calV (q : Str) (xs : List Vl) (S : Hs) : Res Vl := (M.cal q xs S).bind fun r S1 => .ok r.v S1
def dot (c m : Str) : Str := c ++ ⟨#[46]⟩ ++ m
/-- an instance of c, none of whose fields is called m -/
def hasM (S : Hs) (x : Vl) (c m : Str) : Bool := match insOf S x with
  | some (d, ns, _) => decide (d = c) && !(ns.contains m)
  | none => false
/-- what an own == is asked against -/
def eqY (S : Hs) (c : Str) (y : Vl) : Bool := match insOf S y with
  | some (d, _, _) => decide (d = c)
  | none => match y with
    | .str _ => true
    | .tup _ => true
    | _ => (lstOf S y).isSome
def noX {α : Type} : Res α → Res α
  | .exc _ _ => .bad
  | r => r
def Ob.lim (n : Nat) : Ob → Bool
  | .lst xs | .dct _ xs | .ins _ _ xs => limAll n xs
def Xc.lim (n : Nat) (x : Xc) : Bool := match x.fs with
  | none => true
  | some (_, vs) => limAll n vs
/-- what comes of the making of an instance that stands behind the others -/
def newR (S1 : Hs) : Res Rv → Res Ob
  | .ok (.val .non) T => match T.getLast? with
    | some o => if T.length = S1.length + 1 ∧ T.all (Ob.lim S1.length) = true then .ok o T.dropLast else .bad
    | none => .bad
  | .exc x T => if T.length = S1.length + 1 ∧ T.dropLast.all (Ob.lim S1.length) = true ∧ x.lim S1.length = true then .exc x T.dropLast else .bad
  | _ => .bad
open Classical in
mutual
noncomputable def ev : E → Sg → Hs → Res Vl
  | .var i, η, S => match η[i]? with
    | some (some x) => .ok x S
    | _ => .bad
  | .cst v, _, S => .ok v S
  | .bin op a b, η, S => (ev a η S).bind fun x S1 => (ev b η S1).bind fun y S2 => ofO S2 (binop op x y)
  | .cmp op a b, η, S => (ev a η S).bind fun x S1 => (ev b η S1).bind fun y S2 => (ofO S2 (cmpop op S2 x y)).bind fun b S3 => .ok (.bl b) S3
  | .chn p q a b c, η, S => (ev a η S).bind fun x S1 => (ev b η S1).bind fun y S2 => (ofO S2 (cmpop p S2 x y)).bind fun k S3 =>
      if k = true then (ev c η S3).bind fun z S4 => (ofO S4 (cmpop q S4 y z)).bind fun b S5 => .ok (.bl b) S5 else .ok (.bl false) S3
  | .band a b, η, S => (ev a η S).bind fun x S1 => match x with
    | .bl true => ev b η S1
    | .bl false => .ok (.bl false) S1
    | _ => .bad
  | .bor a b, η, S => (ev a η S).bind fun x S1 => match x with
    | .bl true => .ok (.bl true) S1
    | .bl false => ev b η S1
    | _ => .bad
  | .bnot a, η, S => (ev a η S).bind fun x S1 => match x with
    | .bl b => .ok (.bl (!b)) S1
    | _ => .bad
  | .tru a, η, S => (ev a η S).bind fun x S1 => (ofO S1 (truth S1 x)).bind fun b S2 => .ok (.bl b) S2
  | .neg a, η, S => (ev a η S).bind fun x S1 => match x with
    | .int i => .ok (.int (-i)) S1
    | _ => .bad
  | .ite t a b, η, S => (ev t η S).bind fun x S1 => match x with
    | .bl true => ev a η S1
    | .bl false => ev b η S1
    | _ => .bad
  | .tup es, η, S => (evs es η S).bind fun xs S1 => if xs.length ≤ sizeLine then .ok (.tup xs) S1 else .bad
  | .idx a i, η, S => (ev a η S).bind fun x S1 => (ev i η S1).bind fun y S2 => ofO S2 (idxop S2 x y)
  | .slt a lo hi, η, S => (ev a η S).bind fun x S1 => (evo lo η S1).bind fun l S2 => (evo hi η S2).bind fun h S3 => ofO S3 (sltop x l h)
  | .kin g ng a, η, S => (ev a η S).bind fun x S1 => match x, M.kd g with
    | .str z, some kv => .ok (.bl (if ng then !(kv.lookup z).isSome else (kv.lookup z).isSome)) S1
    | _, _ => .bad
  | .kget g a, η, S => (ev a η S).bind fun x S1 => match x, M.kd g with
    | .str z, some kv => ofO S1 (kv.lookup z)
    | _, _ => .bad
  | .b1 f a, η, S => (ev a η S).bind fun x S1 => ofO S1 (b1op f S1 x)
  | .isD a, η, S => (ev a η S).bind fun x S1 => .ok (.bl (dctOf S1 x).isSome) S1
  | .isC c a, η, S => (ev a η S).bind fun x S1 => match insOf S1 x with
    | some (d, _, _) => if c = d then .ok (.bl true) S1 else .bad
    | none => .ok (.bl false) S1
  | .call q es, η, S => (evs es η S).bind fun xs S1 => calV M q xs S1
  | .mcl c m a es, η, S => (ev a η S).bind fun x S1 => if hasM S1 x c m then (evs es η S1).bind fun xs S2 => calV M (dot c m) (x :: xs) S2 else .bad
  | .fld a f, η, S => (ev a η S).bind fun x S1 => match insOf S1 x with
    | some (_, ns, vs) => ofO S1 (lookG ns vs f)
    | none => .bad
  | .tm m a b, η, S => (ev a η S).bind fun x S1 => match x with
    | .str z => (ev b η S1).bind fun y S2 => ofO S2 (tmop m S2 z y)
    | _ => .bad
  | .mut m a es, η, S => (ev a η S).bind fun x S1 => match lstAt S1 x with
    | some r => (evs es η S1).bind fun xs S2 => match S2[r]? with
      | some (.lst ys) => match mutop m ys xs with
        | some (v, zs) => .ok v (S2.set r (.lst zs))
        | none => .bad
      | _ => .bad
    | none => .bad
  | .olen c a, η, S => (ev a η S).bind fun x S1 => if hasM S1 x c "__len__" then (noX (calV M (dot c "__len__") [x] S1)).bind fun v S2 => match v with
      | .int n => if 0 ≤ n ∧ n < 2 ^ 63 then .ok (.int n) S2 else .bad
      | _ => .bad
    else .bad
  | .oeq c ng a b, η, S => (ev a η S).bind fun x S1 => (ev b η S1).bind fun y S2 => if hasM S2 x c "__eq__" && eqY S2 c y then (noX (calV M (dot c "__eq__") [x, y] S2)).bind fun v S3 => match v with
      | .bl d => .ok (.bl (if ng then !d else d)) S3
      | _ => .bad
    else .bad
  | .fs es, η, S => (noX (evs es η S)).bind fun xs S1 => (ofO S1 (fsop xs Str.empty)).bind fun z S2 => .ok (.str z) S2
  | .mn a b, η, S => (ev a η S).bind fun x S1 => (ev b η S1).bind fun y S2 => match x, y with
    | .int i, .int j => .ok (.int (if j < i then j else i)) S2
    | _, _ => .bad
  | .orepr c a, η, S => (ev a η S).bind fun x S1 => if hasM S1 x c "__repr__" then (noX (calV M (dot c "__repr__") [x] S1)).bind fun v S2 => match v with
      | .str z => .ok (.str z) S2
      | _ => .bad
    else .bad
  | .inl f, η, S => (evf f η S).bind fun o S1 => .ok o.inl S1
  | .alc f, η, S => (evf f η S).bind fun o S1 => .ok (.ref S1.length) (S1 ++ [o])
  | .bad, _, _ => .bad
noncomputable def evf : F → Sg → Hs → Res Ob
  | .lst es, η, S => (evs es η S).bind fun xs S1 => if xs.length ≤ sizeLine then .ok (.lst xs) S1 else .bad
  | .cat a b, η, S => (ev a η S).bind fun x S1 => (ev b η S1).bind fun y S2 => match lstOf S2 x, lstOf S2 y with
    | some xs, some ys => if xs.length + ys.length ≤ sizeLine then .ok (.lst (xs ++ ys)) S2 else .bad
    | _, _ => .bad
  | .rep a b, η, S => (ev a η S).bind fun x S1 => (ev b η S1).bind fun y S2 => match lstAt S2 x, lstOf S2 x, y with
    | some _, some xs, .int n => if 0 ≤ n ∧ n < 2 ^ 63 ∧ xs.length * n.toNat ≤ sizeLine then .ok (.lst (List.replicate n.toNat xs).flatten) S2 else .bad
    | _, _, _ => .bad
  | .slc a lo hi, η, S => (ev a η S).bind fun x S1 => (evo lo η S1).bind fun l S2 => (evo hi η S2).bind fun h S3 => match lstOf S3 x with
    | some xs => .ok (.lst (cutG xs l h)) S3
    | none => .bad
  | .cpy a, η, S => (ev a η S).bind fun x S1 => match seqOf S1 x with
    | some xs => .ok (.lst xs) S1
    | none => .bad
  | .srt a, η, S => (ev a η S).bind fun x S1 => match srtop S1 x with
    | some xs => .ok (.lst xs) S1
    | none => .bad
  | .comp own elt t s ifs, η, S => (evS s η S).bind fun p S1 => (compL (fun x S2 => match bindT t x (wipeG η own) with
      | none => .bad
      | some η1 => (evAll ifs η1 S2).bind fun b S3 => if b = true then (ev elt η1 S3).bind fun y S4 => .ok (some y) S4 else .ok none S3) p.1 p.2 [] S1).bind fun ys S2 => .ok (.lst ys) S2
  | .sset a, η, S => (ev a η S).bind fun x S1 => match (lstOf S1 x).bind allS with
    | some zs => if zs.length < 64 then .ok (.lst ((sortStr (dedupS zs)).map .str)) S1 else .bad
    | none => .bad
  | .scomp2 own elt t s ifs vs1 t1 s1 ifs1, η, S => (evS s η S).bind fun p S1 => (compS (fun x S2 => match bindT t x (wipeG η own) with
      | none => .bad
      | some η1 => (evAll ifs η1 S2).bind fun b S3 => if b = true then (evS s1 η1 S3).bind fun p1 S4 => compS (fun y S5 => match bindT t1 y (wipeG η1 vs1) with
          | none => .bad
          | some η2 => (evAll ifs1 η2 S5).bind fun b1 S6 => if b1 = true then (ev elt η2 S6).bind fun y S7 => match y with
              | .str z => .ok [z] S7
              | _ => .bad
            else .ok [] S6) p1.1 p1.2 S4
        else .ok [] S3) p.1 p.2 S1).bind fun zs S2 => if zs.length < 64 then .ok (.lst ((sortStr (dedupS zs)).map .str)) S2 else .bad
  | .bad, _, _ => .bad
  | .call q es, η, S => (evs es η S).bind fun xs S1 => (M.cal q xs S1).bind fun r S2 => match r with
    | .frs o => .ok o S2
    | .val _ => .bad
  | .mcl c m a es, η, S => (ev a η S).bind fun x S1 => if hasM S1 x c m then (evs es η S1).bind fun xs S2 => (M.cal (dot c m) (x :: xs) S2).bind fun r S3 => match r with
      | .frs o => .ok o S3
      | .val _ => .bad
    else .bad
  | .dsp ks vs, η, S => match evs vs η (S ++ [.dct [] []]) with
    | .ok xs T => if T = S ++ [.dct [] []] ∧ limAll S.length xs = true ∧ ks.Nodup ∧ ks.length = xs.length ∧ ks.length ≤ 15 then .ok (.dct (ks.map Sum.inr) xs) S else .bad
    | _ => .bad
  | .new c es, η, S => (evs es η S).bind fun xs S1 => newR S1 (M.cal (dot c "__init__") (.ref S1.length :: xs) (S1 ++ [.ins c [] []]))
  | .split a b, η, S => .bad
  | .dspk ks vs, η, S => match evs vs η (S ++ [.dct [] []]) with
    | .ok xs T => if T = S ++ [.dct [] []] ∧ limAll S.length xs = true ∧ ks.Nodup ∧ ks.length = xs.length ∧ ks.length ≤ 15 then .ok (.dct ks xs) S else .bad
    | _ => .bad
  | .dcomp own ke ve t s ifs, η, S => (evS s η S).bind fun p S1 => (compD (fun x S2 => match bindT t x (wipeG η own) with
      | none => .bad
      | some η1 => (evAll ifs η1 S2).bind fun b S3 => if b = true then (ev ke η1 S3).bind fun k S4 => (ev ve η1 S4).bind fun y S5 => .ok (some (k, y)) S5 else .ok none S3) p.1 p.2 [] [] S1).bind fun q S2 => .ok (.dct q.1 q.2) S2
  | .icomp own elt t i ifs, η, S => match η[i]? with
    | some (some (.dct ks vs)) => (compL (fun x S2 => match bindT t x (wipeG η own) with
      | none => .bad
      | some η1 => (evAll ifs η1 S2).bind fun b S3 => if b = true then (ev elt η1 S3).bind fun y S4 => .ok (some y) S4 else .ok none S3) [] (itemsL ks vs) [] S).bind fun ys S2 => .ok (.lst ys) S2
    | _ => .bad
  | .srtp a, η, S => (ev a η S).bind fun x S1 => match srtpop S1 x with
    | some xs => .ok (.lst xs) S1
    | none => .bad
  | .srtd a, η, S => (ev a η S).bind fun x S1 => match srtdop S1 x with
    | some xs => .ok (.lst xs) S1
    | none => .bad
  | .dctp a, η, S => (ev a η S).bind fun x S1 => match dctpop S1 x with
    | some o => .ok o S1
    | none => .bad
noncomputable def evS : Src → Sg → Hs → Res (List Lk × List Vl)
  | .sq e, η, S => (ev e η S).bind fun x S1 => ofO S1 (walkS S1 x)
  | .rng1 e, η, S => (ev e η S).bind fun x S1 => match x with
    | .int j => if -(2 ^ 62) ≤ j ∧ j < 2 ^ 62 then .ok ([], rngL 0 j.toNat) S1 else .bad
    | _ => .bad
  | .rng2 a b, η, S => (ev a η S).bind fun x S1 => (ev b η S1).bind fun y S2 => match x, y with
    | .int i, .int j => if -(2 ^ 62) ≤ i ∧ i < 2 ^ 62 ∧ -(2 ^ 62) ≤ j ∧ j < 2 ^ 62 then .ok ([], rngL i (j - i).toNat) S2 else .bad
    | _, _ => .bad
  | .enm e st, η, S => (ev e η S).bind fun x S1 => (ofO S1 (walkS S1 x)).bind fun p S2 => .ok (p.1, enumL st p.2) S2
  | .zip a b, η, S => (ev a η S).bind fun x S1 => (ev b η S1).bind fun y S2 => (ofO S2 (walkT S2 x)).bind fun p S3 => (ofO S3 (walkT S3 y)).bind fun q S4 => .ok (p.1 ++ q.1, zipL p.2 q.2) S4
  | .chars e, η, S => (ev e η S).bind fun x S1 => match x with
    | .str z => .ok ([], charsL z) S1
    | _ => .bad
  | .items e, η, S => (ev e η S).bind fun x S1 => match x with
    | .dct ks vs => .ok ([], itemsL ks vs) S1
    | .ref r => match S1[r]? with
      | some (.dct ks vs) => .ok ([(r, .dct ks vs)], itemsL ks vs) S1
      | _ => .bad
    | _ => .bad
noncomputable def evs : Es → Sg → Hs → Res (List Vl)
  | .nil, _, S => .ok [] S
  | .cons e es, η, S => (ev e η S).bind fun x S1 => (evs es η S1).bind fun xs S2 => .ok (x :: xs) S2
noncomputable def evAll : Es → Sg → Hs → Res Bool
  | .nil, _, S => .ok true S
  | .cons e es, η, S => (ev e η S).bind fun x S1 => match x with
    | .bl true => evAll es η S1
    | .bl false => .ok false S1
    | _ => .bad
noncomputable def evo : Oe → Sg → Hs → Res (Option Int)
  | .none, _, S => .ok none S
  | .some e, η, S => (ev e η S).bind fun x S1 => match x with
    | .int i => .ok (some i) S1
    | _ => .bad
end
def Res.out {α : Type} (r : Res α) (η : Sg) (f : α → Hs → Out) : Out := match r with
  | .ok a S => f a S
  | .exc x S => .exc x η S
  | .bad => .bad
mutual
noncomputable def exc1 : C → Sg → Hs → Out
  | .asg t e, η, S => (ev M e η S).out η fun x S1 => match bindT t x η with
    | some η1 => .nx η1 S1
    | none => .bad
  | .star is i e, η, S => (ev M e η S).out η fun x S1 => match seqOf S1 x with
    | some xs => match bindN is xs η with
      | some (η1, ys) => .nx (η1.set i (some (.lst ys))) S1
      | none => .bad
    | none => .bad
  | .par i j a b, η, S => (ev M a η S).out η fun x S1 => (ev M b η S1).out η fun y S2 => .nx ((η.set i (some x)).set j (some y)) S2
  | .fset a f e, η, S => (ev M e η S).out η fun y S1 => (ev M a η S1).out η fun x S2 => match x with
    | .ref r => match S2[r]? with
      | some (.ins c ns vs) => if ns.length < 1000 then let q := putG ns vs f y; .nx η (S2.set r (.ins c q.1 q.2)) else .bad
      | _ => .bad
    | _ => .bad
  | .iset o i e, η, S => (ev M e η S).out η fun y S1 => (ev M o η S1).out η fun x S2 => (ev M i η S2).out η fun k S3 => match isetS S3 x k y with
    | some T => .nx η T
    | none => .bad
  | .iset2 o1 i1 o2 i2 e, η, S => (ev M e η S).out η fun p S1 => match p with
    | .tup [y, z] => (ev M o1 η S1).out η fun x S2 => (ev M i1 η S2).out η fun k S3 => match isetS S3 x k y with
      | some T => (ev M o2 η T).out η fun x2 S4 => (ev M i2 η S4).out η fun k2 S5 => match isetS S5 x2 k2 z with
        | some T2 => .nx η T2
        | none => .bad
      | none => .bad
    | _ => .bad
  | .aug i op e, η, S => match η[i]? with
    | some (some x) => (ev M e η S).out η fun y S1 => match op, x, y with
      | .Add, .int a, .int b => .nx (η.set i (some (.int (a + b)))) S1
      | .Sub, .int a, .int b => .nx (η.set i (some (.int (a - b)))) S1
      | _, _, _ => .bad
    | _ => .bad
  | .ex e, η, S => (ev M e η S).out η fun _ S1 => .nx η S1
  | .ret e, η, S => (ev M e η S).out η fun x S1 => .ret (.val x) S1
  | .retf f, η, S => (evf M f η S).out η fun o S1 => .ret (.frs o) S1
  | .retn, η, S => .ret (.val .non) S
  | .ite t a b, η, S => (ev M t η S).out η fun x S1 => match x with
    | .bl true => exec a η S1
    | .bl false => exec b η S1
    | _ => .bad
  | .for_ t s b, η, S => (evS M s η S).out η fun p S1 => forL (fun η1 S2 => exec b η1 S2) t p.1 p.2 η S1
  | .whl t b, η, S => whlL (fun η1 S2 => ev M t η1 S2) (fun η1 S2 => exec b η1 S2) M.fuel η S
  | .raise c es, η, S => (evs M es η S).out η fun xs S1 => .bad
  | .pass, η, S => .nx η S
  | .brk, η, S => .brk η S
  | .cnt, η, S => .cnt η S
  | .bad, _, _ => .bad
noncomputable def exec : Cs → Sg → Hs → Out
  | .nil, η, S => .nx η S
  | .cons c cs, η, S => match exc1 c η S with
    | .nx η1 S1 => exec cs η1 S1
    | o => o
end
end Oz
set_option Elab.async false
set_option linter.all false
set_option maxRecDepth 100000
set_option maxHeartbeats 4000000
/-! Oz: what code tells of the hand layer's readings. -/
namespace Oz
open PySem L2 PyProof.Rows

/-- what is wanted of an error -/
def XW (G : Glb) (W : WX) (σ : L2.St) (ρ : List Addr) (H : Hp) (x : Xc) : Prop := match x.fs with
  | none => W (.ref (G.cl x.c)) none σ H
  | some (ns, vs) => ∀ d fs, H d = some (.xd fs) → d ∉ ρ → fs.map (·.1) = ns → VRs G ρ H vs (fs.map (·.2)) → W (.ref (G.cl x.c)) (some d) σ H
def PR {α : Type} (G : Glb) (W : WX) (σ : L2.St) (ρ : List Addr) (H : Hp) (r : Res α) (ok : List Addr → Hp → α → Hs → Prop) : Prop := match r with
  | .ok a S' => ∀ ρ' H', Step ρ H ρ' H' → Sim G ρ' H' S' → ok ρ' H' a S'
  | .exc x S' => ∀ ρ' H', Step ρ H ρ' H' → Sim G ρ' H' S' → XW G W σ ρ' H' x
  | .bad => False
section
variable {α β : Type} {G : Glb} {W : WX} {σ : L2.St} {ρ ρ' : List Addr} {H H' : Hp} {S : Hs}
theorem PR.step {r : Res α} {ok : List Addr → Hp → α → Hs → Prop} (h : PR G W σ ρ H r ok) (a : Step ρ H ρ' H') : PR G W σ ρ' H' r ok := by
  cases r with
  | ok x S' => exact fun ρ2 H2 b s => h ρ2 H2 (a.trans b) s
  | exc x S' => exact fun ρ2 H2 b s => h ρ2 H2 (a.trans b) s
  | bad => exact h
theorem PR.bind {r : Res α} {f : α → Hs → Res β} {ok : List Addr → Hp → β → Hs → Prop} (h : PR G W σ ρ H (r.bind f) ok) : PR G W σ ρ H r fun ρ1 H1 a S1 => PR G W σ ρ1 H1 (f a S1) ok := by
  cases r with
  | ok x S' => exact fun ρ2 H2 b s => PR.step h b
  | exc x S' => exact h
  | bad => exact h
theorem PR.mono {r : Res α} {ok ok' : List Addr → Hp → α → Hs → Prop} (h : PR G W σ ρ H r ok) (k : ∀ ρ1 H1 a S1, Step ρ H ρ1 H1 → Sim G ρ1 H1 S1 → ok ρ1 H1 a S1 → ok' ρ1 H1 a S1) : PR G W σ ρ H r ok' := by
  cases r with
  | ok x S' => exact fun ρ2 H2 b s => k _ _ _ _ b s (h ρ2 H2 b s)
  | exc x S' => exact h
  | bad => exact h
theorem PR.here {x : α} {ok : List Addr → Hp → α → Hs → Prop} (h : PR G W σ ρ H (.ok x S) ok) (s : Sim G ρ H S) : ok ρ H x S := h ρ H (Step.refl _ _) s
theorem PR.ofO {o : Option α} {ok : List Addr → Hp → α → Hs → Prop} (h : PR G W σ ρ H (ofO S o) ok) : ∃ x, o = some x ∧ PR G W σ ρ H (.ok x S) ok := by
  cases o with
  | none => exact h.elim
  | some x => exact ⟨x, rfl, h⟩
end
theorem _root_.L2.PE.imp {X : Cx} {e : Expr} {t t' : TE} (h : PE X e t) (k : ∀ σ H Q, t' σ H Q → t σ H Q) : PE X e t' := ⟨fun pins s σ H Q I q => h.run pins s σ H Q I (k σ H Q q)⟩
theorem _root_.L2.PT.imp {X : Cx} {e : Expr} {t t' : TT} (h : PT X e t) (k : ∀ σ H Q, t' σ H Q → t σ H Q) : PT X e t' := ⟨fun pins s σ H Q I q => h.run pins s σ H Q I (k σ H Q q)⟩
theorem _root_.L2.PA.imp {X : Cx} {e : List Expr} {t t' : TA} (h : PA X e t) (k : ∀ σ H Q, t' σ H Q → t σ H Q) : PA X e t' := ⟨fun pos pins s σ H Q I q => h.run pos pins s σ H Q I (k σ H Q q)⟩
theorem _root_.L2.PS.imp {X : Cx} {e : Stmt} {t t' : TS} (h : PS X e t) (k : ∀ D σ H, t' D σ H → t D σ H) : PS X e t' := ⟨fun pins s σ H D I q => h.run pins s σ H D I (k D σ H q)⟩
theorem _root_.L2.PSs.imp {X : Cx} {e : List Stmt} {t t' : TS} (h : PSs X e t) (k : ∀ D σ H, t' D σ H → t D σ H) : PSs X e t' := ⟨fun pins s σ H D I q => h.run pins s σ H D I (k D σ H q)⟩

section
variable (G : Glb) (M : Mach) (W : WX)
/-- a value comes -/
def okV (Q : VK) : List Addr → Hp → Vl → Hs → Prop := fun ρ' H' x _ => ∀ v, VR G ρ' H' x v → Q v H'
def okVs (Q : List V → Hp → Prop) : List Addr → Hp → List Vl → Hs → Prop := fun ρ' H' xs _ => ∀ vs, VRs G ρ' H' xs vs → Q vs H'
/-- a new thing comes -/
def okF (H : Hp) (Q : VK) : List Addr → Hp → Ob → Hs → Prop := fun ρ' H' o S' => ∀ p, H p = none → p ∉ ρ' → OR G ρ' H' p o → Sim G (ρ' ++ [p]) H' (S' ++ [o]) → Q (.ref p) H'
def tE (c : E) : TE := fun σ H Q => ∃ ρ η S, Sim G ρ H S ∧ ER G ρ H η σ ∧ PR G W σ ρ H (ev M c η S) (okV G Q)
def tF (c : F) : TE := fun σ H Q => ∃ ρ η S, Sim G ρ H S ∧ ER G ρ H η σ ∧ PR G W σ ρ H (evf M c η S) (okF G H Q)
def tA (c : Es) : TA := fun σ H Q => ∃ ρ η S, Sim G ρ H S ∧ ER G ρ H η σ ∧ PR G W σ ρ H (evs M c η S) (okVs G Q)
/-- a test -/
def tT (c : E) : TT := fun σ H Q => ∃ ρ η S, Sim G ρ H S ∧ ER G ρ H η σ ∧ PR G W σ ρ H (ev M c η S) (fun _ H' x _ => ∀ b, x = .bl b → Q b H') ∧ PR G (fun _ _ _ _ => True) σ ρ H (ev M c η S) (fun _ _ x _ => ∃ b, x = .bl b)
end
end Oz
set_option Elab.async false
set_option linter.all false
set_option maxRecDepth 100000
set_option maxHeartbeats 4000000
/-! Oz: operations on values. -/
namespace Oz
open PySem L2 PyProof.Rows

/-! ### heaps that only grow -/
section
variable {G : Glb} {ρ ρ' : List Addr} {H H' : Hp} {S : Hs}
theorem stepSame (k : Same H H') : Step ρ H ρ H' := ⟨List.prefix_refl _, fun a o h _ => k a o h, fun _ h => .inl h⟩
theorem OR.same (a : Step ρ H ρ' H') (k : Same H H') {p : Addr} {o : Ob} (h : OR G ρ H p o) : OR G ρ' H' p o := by
  cases o with
  | lst xs => obtain ⟨vs, h1, h2⟩ := h; exact ⟨vs, k _ _ h1, VRs.step a _ _ h2⟩
  | dct ks xs => obtain ⟨vs, h1, h2, h3⟩ := h; exact ⟨vs, k _ _ h1, h2, VRs.step a _ _ h3⟩
  | ins c ns xs => obtain ⟨dx, vs, h1, h2, h3⟩ := h; exact ⟨dx, vs, k _ _ h1, h2, VRs.step a _ _ h3⟩
theorem Sim.same (s : Sim G ρ H S) (k : Same H H') : Sim G ρ H' S := ⟨s.len, s.nd, fun r o a h1 h2 => (s.at_ r o a h1 h2).same (stepSame k) k⟩
theorem OR.there {p : Addr} {o : Ob} (h : OR G ρ H p o) : ∃ u, H p = some u := by
  cases o with
  | lst xs => obtain ⟨vs, h1, _⟩ := h; exact ⟨_, h1⟩
  | dct ks xs => obtain ⟨vs, h1, _⟩ := h; exact ⟨_, h1⟩
  | ins c ns xs => obtain ⟨dx, vs, h1, _⟩ := h; exact ⟨_, h1⟩
theorem Sim.mem (s : Sim G ρ H S) {p : Addr} (h : p ∈ ρ) : ∃ (r : Nat) (o : Ob), S[r]? = some o ∧ ρ[r]? = some p ∧ OR G ρ H p o := by
  obtain ⟨r, hr⟩ := List.getElem?_of_mem h
  have hl : r < S.length := by rw [← s.len]; exact (List.getElem?_eq_some_iff.mp hr).1
  exact ⟨r, S[r], List.getElem?_eq_getElem hl, hr, s.at_ r _ _ (List.getElem?_eq_getElem hl) hr⟩
theorem Sim.free (s : Sim G ρ H S) {p : Addr} (h : H p = none) : p ∉ ρ := fun q => by
  obtain ⟨r, o, _, _, h3⟩ := s.mem q
  obtain ⟨u, hu⟩ := h3.there
  rw [h] at hu; cases hu
theorem Sim.notup (s : Sim G ρ H S) {p : Addr} {xs : List V} (h : H p = some (.tup xs)) : p ∉ ρ := fun q => by
  obtain ⟨r, o, _, _, h3⟩ := s.mem q
  cases o with
  | lst xs => obtain ⟨vs, h1, _⟩ := h3; rw [h] at h1; cases h1
  | dct ks xs => obtain ⟨vs, h1, _⟩ := h3; rw [h] at h1; cases h1
  | ins c ns xs => obtain ⟨dx, vs, h1, _⟩ := h3; rw [h] at h1; cases h1
theorem same_new {p : Addr} {o : HO} (h : H p = none) : Same H (upd H p o) := fun b u e => by rw [upd_ne (ne_of_none e h)]; exact e
theorem Sim.ref (s : Sim G ρ H S) {r : Nat} {v : V} (h : VR G ρ H (.ref r) v) {o : Ob} (e : S[r]? = some o) : ∃ a, v = .ref a ∧ ρ[r]? = some a ∧ OR G ρ H a o := by
  simp only [VR] at h
  obtain ⟨a, rfl, h1⟩ := h
  exact ⟨a, rfl, h1, s.at_ r o a e h1⟩

/-! ### data -/
mutual
theorem dp_map {f : Nat → Vl} (hf : ∀ r v d, VR G ρ H (.ref r) v → (f r).toD = some d → Dp G.K H v d) : ∀ (x : Vl) (v : V) (d : PyData), VR G ρ H x v → (x.mapRef f).toD = some d → Dp G.K H v d
  | .non, _, _, h, e => by
    simp only [VR] at h; simp only [Vl.mapRef, Vl.toD, Option.some.injEq] at e
    subst h e; exact .non
  | .bl b, _, _, h, e => by
    simp only [VR] at h; simp only [Vl.mapRef, Vl.toD, Option.some.injEq] at e
    subst h e; exact .bl b
  | .int b, _, _, h, e => by
    simp only [VR] at h; simp only [Vl.mapRef, Vl.toD, Option.some.injEq] at e
    subst h e; exact .int b
  | .str b, _, _, h, e => by
    simp only [VR] at h; simp only [Vl.mapRef, Vl.toD, Option.some.injEq] at e
    subst h e; exact .str b
  | .tup xs, v, d, h, e => by
    simp only [VR] at h; simp only [Vl.mapRef, Vl.toD] at e
    obtain ⟨a, vs, rfl, h1, h2⟩ := h
    obtain ⟨ds, e1, rfl⟩ := Option.map_eq_some_iff.mp e
    exact .tup h1.sq (dp_maps hf xs vs ds h2 e1)
  | .lst xs, v, d, h, e => by
    simp only [VR] at h; simp only [Vl.mapRef, Vl.toD] at e
    obtain ⟨a, vs, rfl, h1, h2⟩ := h
    obtain ⟨ds, e1, rfl⟩ := Option.map_eq_some_iff.mp e
    exact .lst h1.sq (dp_maps hf xs vs ds h2 e1)
  | .dct ks xs, _, _, _, e => by simp only [Vl.mapRef, Vl.toD] at e; cases e
  | .obj c ns xs, _, _, _, e => by simp only [Vl.mapRef, Vl.toD] at e; cases e
  | .ref r, v, d, h, e => by
    simp only [Vl.mapRef] at e
    exact hf r v d h e
theorem dp_maps {f : Nat → Vl} (hf : ∀ r v d, VR G ρ H (.ref r) v → (f r).toD = some d → Dp G.K H v d) : ∀ (xs : List Vl) (vs : List V) (ds : List PyData), VRs G ρ H xs vs → toDs (mapRefs f xs) = some ds → DpAll G.K H vs ds
  | [], vs, ds, h, e => by
    simp only [VRs] at h; simp only [mapRefs, toDs, Option.some.injEq] at e
    subst h e; exact .nil
  | x :: xs, vs, ds, h, e => by
    simp only [VRs] at h; simp only [mapRefs, toDs] at e
    obtain ⟨v, r, rfl, h1, h2⟩ := h
    split at e
    · rename_i d' ds' e1 e2
      cases e
      exact .cons (dp_map hf x v _ h1 e1) (dp_maps hf xs r _ h2 e2)
    · cases e
end
theorem dp_inl (s : Sim G ρ H S) : ∀ (k : Nat) (x : Vl) (v : V) (d : PyData), VR G ρ H x v → (inlS k S x).toD = some d → Dp G.K H v d
  | 0, x, v, d, h, e => dp_map (f := .ref) (fun r v d _ e => by have e' : (none : Option PyData) = some d := e; cases e') x v d h (by simpa only [inlS] using e)
  | k + 1, x, v, d, h, e => by
    refine dp_map (fun r w d' hr er => ?_) x v d h (by simpa only [inlS] using e)
    split at er
    · rename_i o eo
      obtain ⟨a, rfl, ha, ho⟩ := s.ref hr eo
      cases o with
      | lst xs =>
        obtain ⟨vs, h1, h2⟩ := ho
        have er' : (inlS k S (.lst xs)).toD = some d' := er
        -- the list's own items, by the same
        have key : ∀ (f : Nat → Vl), (∀ r v d, VR G ρ H (.ref r) v → (f r).toD = some d → Dp G.K H v d) → ((Vl.lst xs).mapRef f).toD = some d' → Dp G.K H (.ref a) d' := fun f hf e => by
          simp only [Vl.mapRef, Vl.toD] at e
          obtain ⟨ds, e1, rfl⟩ := Option.map_eq_some_iff.mp e
          exact .lst (SqL.of h1) (dp_maps hf xs vs ds h2 e1)
        cases k with
        | zero => exact key .ref (fun r v d _ e => by have e' : (none : Option PyData) = some d := e; cases e') (by simpa only [inlS] using er')
        | succ k =>
          refine key _ (fun r' v' d' hr' er2 => ?_) (by simpa only [inlS] using er')
          exact dp_inl s (k + 1) (.ref r') v' d' hr' (by simp only [inlS, Vl.mapRef]; exact er2)
      | dct ks xs =>
        have er' : (inlS k S (.dct ks xs)).toD = some d' := er
        cases k <;> (simp only [inlS, Vl.mapRef, Vl.toD] at er'; cases er')
      | ins c ns xs =>
        have er' : (inlS k S (.obj c ns xs)).toD = some d' := er
        cases k <;> (simp only [inlS, Vl.mapRef, Vl.toD] at er'; cases er')
    · simp only [Vl.toD] at er; cases er
theorem dp_of (s : Sim G ρ H S) {x : Vl} {v : V} {d : PyData} (h : VR G ρ H x v) (e : dataOf S x = some d) : Dp G.K H v d := dp_inl s _ x v d h e

/-! ### what stands at a value -/
theorem seq_of (s : Sim G ρ H S) {x : Vl} {v : V} {xs : List Vl} (h : VR G ρ H x v) (e : seqOf S x = some xs) : ∃ a vs, v = .ref a ∧ (SqL G.K H a vs ∨ SqT G.K H a vs) ∧ VRs G ρ H xs vs := by
  cases x with
  | tup ys => simp only [seqOf, Option.some.injEq] at e; subst e; simp only [VR] at h; obtain ⟨a, vs, rfl, h1, h2⟩ := h; exact ⟨a, vs, rfl, .inr h1.sq, h2⟩
  | lst ys => simp only [seqOf, Option.some.injEq] at e; subst e; simp only [VR] at h; obtain ⟨a, vs, rfl, h1, h2⟩ := h; exact ⟨a, vs, rfl, .inl h1.sq, h2⟩
  | ref r =>
    simp only [seqOf] at e
    split at e
    · rename_i ys eo
      cases e
      obtain ⟨a, rfl, _, vs, h1, h2⟩ := s.ref h eo
      exact ⟨a, vs, rfl, .inl (SqL.of h1), h2⟩
    · cases e
  | _ => simp only [seqOf] at e; cases e
theorem lst_of (s : Sim G ρ H S) {x : Vl} {v : V} {xs : List Vl} (h : VR G ρ H x v) (e : lstOf S x = some xs) : ∃ a vs, v = .ref a ∧ Rd H a (.lst vs) ∧ VRs G ρ H xs vs := by
  cases x with
  | lst ys => simp only [lstOf, Option.some.injEq] at e; subst e; simp only [VR] at h; obtain ⟨a, vs, rfl, h1, h2⟩ := h; exact ⟨a, vs, rfl, h1.1, h2⟩
  | ref r =>
    simp only [lstOf] at e
    split at e
    · rename_i ys eo
      cases e
      obtain ⟨a, rfl, _, vs, h1, h2⟩ := s.ref h eo
      exact ⟨a, vs, rfl, .inl h1, h2⟩
    · cases e
  | _ => simp only [lstOf] at e; cases e
theorem dct_of (s : Sim G ρ H S) {x : Vl} {v : V} {ks : List Key} {xs : List Vl} (h : VR G ρ H x v) (e : dctOf S x = some (ks, xs)) : ∃ a kvs, v = .ref a ∧ Rd H a (.dK kvs) ∧ kvs.map (·.1) = ks ∧ VRs G ρ H xs (kvs.map (·.2)) := by
  cases x with
  | dct ks' ys => simp only [dctOf, Option.some.injEq, Prod.mk.injEq] at e; obtain ⟨rfl, rfl⟩ := e; simp only [VR] at h; obtain ⟨a, vs, rfl, h1, _, h2, h3⟩ := h; exact ⟨a, vs, rfl, h1, h2, h3⟩
  | ref r =>
    simp only [dctOf] at e
    split at e
    · rename_i ks' ys eo
      cases e
      obtain ⟨a, rfl, _, vs, h1, h2, h3⟩ := s.ref h eo
      exact ⟨a, vs, rfl, .inl h1, h2, h3⟩
    · cases e
  | _ => simp only [dctOf] at e; cases e
theorem ins_of (s : Sim G ρ H S) {x : Vl} {v : V} {c : Str} {ns : List Str} {xs : List Vl} (h : VR G ρ H x v) (e : insOf S x = some (c, ns, xs)) : ∃ a dx fs, v = .ref a ∧ H a = some (.ins (G.cl c) dx fs) ∧ fs.map (·.1) = ns ∧ VRs G ρ H xs (fs.map (·.2)) := by
  cases x with
  | obj c' ns' ys => simp only [insOf, Option.some.injEq, Prod.mk.injEq] at e; obtain ⟨rfl, rfl, rfl⟩ := e; simp only [VR] at h; obtain ⟨a, dx, vs, rfl, h1, _, h2, h3⟩ := h; exact ⟨a, dx, vs, rfl, h1, h2, h3⟩
  | ref r =>
    simp only [insOf] at e
    split at e
    · rename_i c' ns' ys eo
      cases e
      obtain ⟨a, rfl, _, dx, vs, h1, h2, h3⟩ := s.ref h eo
      exact ⟨a, dx, vs, rfl, h1, h2, h3⟩
    · cases e
  | _ => simp only [insOf] at e; cases e
/-- a field, a dict's value -/
theorem look_fs : ∀ {ns : List Str} {xs : List Vl} {fs : List (Str × V)} {f : Str} {x : Vl}, fs.map (·.1) = ns → VRs G ρ H xs (fs.map (·.2)) → lookG ns xs f = some x → ∃ v, fs.lookup f = some v ∧ VR G ρ H x v
  | [], _, _, _, _, _, _, e => by simp [lookG] at e
  | n :: ns, [], _, _, _, _, _, e => by simp [lookG] at e
  | n :: ns, y :: xs, [], f, x, h, _, _ => by simp at h
  | n :: ns, y :: xs, (m, v) :: fs, f, x, h, k, e => by
    simp only [List.map_cons, List.cons.injEq] at h
    obtain ⟨rfl, h⟩ := h
    simp only [List.map_cons, VRs] at k
    obtain ⟨v', r, e1, k1, k2⟩ := k
    cases e1
    simp only [lookG] at e
    by_cases q : m = f
    · subst q
      rw [if_pos rfl] at e; cases e
      exact ⟨v, by simp [List.lookup], k1⟩
    · rw [if_neg q] at e
      obtain ⟨w, e1, e2⟩ := look_fs h k2 e
      exact ⟨w, by rw [List.lookup_cons, beq_eq_false_iff_ne.mpr fun z => q z.symm]; exact e1, e2⟩
theorem look_kv : ∀ {ks : List Key} {xs : List Vl} {kvs : List (Key × V)} {k : Key} {x : Vl}, kvs.map (·.1) = ks → VRs G ρ H xs (kvs.map (·.2)) → lookG ks xs k = some x → ∃ v, valV kvs k = some v ∧ VR G ρ H x v
  | [], _, _, _, _, _, _, e => by simp [lookG] at e
  | n :: ns, [], _, _, _, _, _, e => by simp [lookG] at e
  | n :: ns, y :: xs, [], f, x, h, _, _ => by simp at h
  | n :: ns, y :: xs, (m, v) :: fs, f, x, h, k, e => by
    simp only [List.map_cons, List.cons.injEq] at h
    obtain ⟨rfl, h⟩ := h
    simp only [List.map_cons, VRs] at k
    obtain ⟨v', r, e1, k1, k2⟩ := k
    cases e1
    simp only [lookG] at e
    by_cases q : m = f
    · subst q
      rw [if_pos rfl] at e; cases e
      exact ⟨v, valV_pos (p := (m, v)) rfl, k1⟩
    · rw [if_neg q] at e
      obtain ⟨w, e1, e2⟩ := look_kv h k2 e
      exact ⟨w, by rw [valV_neg (p := (m, v)) q]; exact e1, e2⟩
theorem any_kv {ks : List Key} {kvs : List (Key × V)} {k : Key} (h : kvs.map (·.1) = ks) : (ks.any fun j => decide (j = k)) = (valV kvs k).isSome := by
  rw [← valV_any, ← h, List.any_map]; rfl
theorem VR.flat {x : Vl} {v : V} (h : VR G ρ H x v) (f : x.flat = true) : flatV v = true := by
  cases x with
  | non => simp only [VR] at h; subst h; rfl
  | bl b => simp only [VR] at h; subst h; rfl
  | int b => simp only [VR] at h; subst h; rfl
  | str b => simp only [VR] at h; subst h; rfl
  | _ => simp [Vl.flat] at f
theorem VR.eqf {x y : Vl} {v w : V} (h : VR G ρ H x v) (k : VR G ρ H y w) (f : x.flat = true) (g : y.flat = true) : eqV v w = eqF x y := by
  cases x <;> first
    | (simp [Vl.flat] at f; done)
    | (cases y <;> first
        | (simp [Vl.flat] at g; done)
        | (simp only [VR] at h k; subst h; subst k; rfl))
theorem VRs.flats : ∀ {xs : List Vl} {vs : List V} {y : Vl} {w : V}, VRs G ρ H xs vs → VR G ρ H y w → xs.all Vl.flat = true → y.flat = true → vs.all flatV = true ∧ inV w vs = xs.any fun z => eqF z y
  | [], vs, y, w, h, k, _, _ => by simp only [VRs] at h; subst h; exact ⟨rfl, rfl⟩
  | x :: xs, vs, y, w, h, k, f, g => by
    simp only [VRs] at h
    obtain ⟨v, r, rfl, h1, h2⟩ := h
    rw [List.all_cons, Bool.and_eq_true] at f
    obtain ⟨i1, i2⟩ := VRs.flats h2 k f.2 g
    refine ⟨by rw [List.all_cons, h1.flat f.1, i1]; rfl, ?_⟩
    show (eqV v w || inV w r) = (eqF x y || xs.any fun z => eqF z y)
    rw [i2, h1.eqf k f.1 g]
theorem VRs.bls : ∀ {xs : List Vl} {vs : List V} {bs : List Bool}, VRs G ρ H xs vs → allB xs = some bs → vs = bs.map V.bl
  | [], vs, bs, h, e => by simp only [VRs] at h; simp only [allB, Option.some.injEq] at e; subst h e; rfl
  | x :: xs, vs, bs, h, e => by
    simp only [VRs] at h; simp only [allB] at e
    obtain ⟨v, r, rfl, h1, h2⟩ := h
    split at e
    · rename_i b bs' e1 e2
      cases e
      cases x <;> simp only [isBl] at e1 <;> cases e1
      simp only [VR] at h1; subst h1
      rw [VRs.bls h2 e2]; rfl
    · cases e
theorem VRs.ints : ∀ {xs : List Vl} {vs : List V} {bs : List Int}, VRs G ρ H xs vs → allI xs = some bs → vs = bs.map V.int
  | [], vs, bs, h, e => by simp only [VRs] at h; simp only [allI, Option.some.injEq] at e; subst h e; rfl
  | x :: xs, vs, bs, h, e => by
    simp only [VRs] at h
    obtain ⟨v, r, rfl, h1, h2⟩ := h
    cases x with
    | int i =>
      simp only [allI] at e
      obtain ⟨l, e1, rfl⟩ := Option.map_eq_some_iff.mp e
      simp only [VR] at h1; subst h1
      rw [VRs.ints h2 e1]; rfl
    | _ => simp only [allI] at e; cases e
theorem VRs.strs : ∀ {xs : List Vl} {vs : List V} {bs : List Str}, VRs G ρ H xs vs → allS xs = some bs → vs = bs.map V.str
  | [], vs, bs, h, e => by simp only [VRs] at h; simp only [allS, Option.some.injEq] at e; subst h e; rfl
  | x :: xs, vs, bs, h, e => by
    simp only [VRs] at h
    obtain ⟨v, r, rfl, h1, h2⟩ := h
    cases x with
    | str i =>
      simp only [allS] at e
      obtain ⟨l, e1, rfl⟩ := Option.map_eq_some_iff.mp e
      simp only [VR] at h1; subst h1
      rw [VRs.strs h2 e1]; rfl
    | _ => simp only [allS] at e; cases e
theorem VRs.map_int : ∀ {ns : List Int}, VRs G ρ H (ns.map .int) (ns.map V.int)
  | [] => VRs.nil
  | n :: ns => VRs.cons (by simp only [VR]) VRs.map_int
theorem VRs.map_str : ∀ {ns : List Str}, VRs G ρ H (ns.map .str) (ns.map V.str)
  | [] => VRs.nil
  | n :: ns => VRs.cons (by simp only [VR]) VRs.map_str
end
end Oz
set_option Elab.async false
set_option linter.all false
set_option maxRecDepth 100000
set_option maxHeartbeats 4000000
/-! Oz: expressions, by the hand layer's rules. -/
namespace Oz
open PySem L2 PyProof.Rows

/-- the surroundings of a body -/
structure Good (G : Glb) (k : Nat) (X : Cx) : Prop where
  K : X.K = G.K
  nd : X.N.Nodup
  calm : X.calm = true
  room : Room k X.A
  grd : X.A.guards = some []
theorem Good.u64 {G : Glb} {k : Nat} {X : Cx} (g : Good G k X) : X.A.units + 64 < cLine := g.room.units
theorem Good.u1 {G : Glb} {k : Nat} {X : Cx} (g : Good G k X) : X.A.units + 1 < cLine := hu_of g.room

/-! ### tuple * int -/
section
open PySem.Spec
theorem tuple_mul1W (l : Addr) (items : Array Value) (n : Nat) (dd : Option Addr) (sl : Array (Option Value)) (x : Int) (u : Tok) (c0 : (decide (x < -(2 ^ 63)) || decide (x ≥ 2 ^ 63)) = false) (c1 : (items.isEmpty || x == 1) = true) :
    Meets (Builtin.«tuple.__mul__» ⟨[.ref l, .int x u], []⟩) (fun _ R s => s.heap.get? l = some { cls := .type "tuple", dict := dd, data := .seq items n, slots := sl } ∧ R (.ok (.ret (Value.ref l))) s) :=
  .of_wp fun prog w A R s h => by
    obtain ⟨hp, g, d, tk, os⟩ := s
    obtain ⟨hl, h⟩ := h
    have f1 := AutoSeq1.idx_int
    wp_walk using wpAny_loadPart' hl
    repeat (first
      | (refine wpAny_ite_false (decide_eq_false (by rw [c0]; exact Bool.false_ne_true)) ?_; wp_walk using wpAny_loadPart' hl)
      | (refine wpAny_ite_true (decide_eq_true (by rw [c1])) ?_; wp_walk using wpAny_loadPart' hl))
    exact ⟨_, rfl, h⟩
theorem tuple_mul0W (l : Addr) (items : Array Value) (n : Nat) (dd : Option Addr) (sl : Array (Option Value)) (x : Int) (u : Tok) (c0 : (decide (x < -(2 ^ 63)) || decide (x ≥ 2 ^ 63)) = false) (c1 : (items.isEmpty || x == 1) = false) (c2 : (decide (x ≤ 0) || items.isEmpty) = true) :
    Meets (Builtin.«tuple.__mul__» ⟨[.ref l, .int x u], []⟩) (fun _ R s => s.heap.get? l = some { cls := .type "tuple", dict := dd, data := .seq items n, slots := sl } ∧
      R (.ok (.ret (Value.ref s.heap.objs.size))) { s with heap := s.heap.push { cls := Value.type "tuple", data := Data.seq #[] }, toks := s.toks }) :=
  .of_wp fun prog w A R s h => by
    obtain ⟨hp, g, d, tk, os⟩ := s
    obtain ⟨hl, h⟩ := h
    have f1 := AutoSeq1.idx_int
    wp_walk using wpAny_loadPart' hl
    repeat (first
      | (refine wpAny_ite_false (decide_eq_false (by rw [c0]; exact Bool.false_ne_true)) ?_; wp_walk using wpAny_loadPart' hl)
      | (refine wpAny_ite_false (decide_eq_false (by rw [c1]; exact Bool.false_ne_true)) ?_; wp_walk using wpAny_loadPart' hl)
      | (refine wpAny_ite_true (decide_eq_true (by rw [c2])) ?_; wp_walk using wpAny_loadPart' hl))
    exact ⟨_, rfl, h⟩
end
theorem dgR {H : Hp} {a : Addr} {kvs : List (Key × V)} {k : Key} (e : Rd H a (.dK kvs)) : DGet H a (kV k) (valV kvs k) := .inl ⟨kvs, k, e, rfl, rfl⟩
section
variable {G : Glb} {k : Nat} {X : Cx}
def rFin (G : Glb) (ρ : List Addr) (H : Hp) (S : Hs) (z : Vl) (Q : VK) : Prop := ∀ ρ' H', Step ρ H ρ' H' → Sim G ρ' H' S → okV G Q ρ' H' z S
def rBin (G : Glb) (op : Operator) : R2 := fun x y H Q => ∃ ρ S a b z, Sim G ρ H S ∧ VR G ρ H a x ∧ VR G ρ H b y ∧ binop op a b = some z ∧ rFin G ρ H S z Q
theorem rFin.now {ρ : List Addr} {H : Hp} {S : Hs} {z : Vl} {Q : VK} (h : rFin G ρ H S z Q) (s : Sim G ρ H S) {v : V} (r : VR G ρ H z v) : Q v H := h ρ H (Step.refl _ _) s v r
theorem rFin.tup {ρ : List Addr} {H : Hp} {S : Hs} {xs : List Vl} {vs : List V} {Q : VK} (h : rFin G ρ H S (.tup xs) Q) (s : Sim G ρ H S) (r : VRs G ρ H xs vs) {p : Addr} (hp : H p = none) : Q (.ref p) (upd H p (.tup vs)) := by
  have sm : Same H (upd H p (.tup vs)) := same_new hp
  refine h ρ _ (stepSame sm) (s.same sm) _ ?_
  simp only [VR]
  exact ⟨p, vs, rfl, .inl ⟨.inl upd_same, s.free hp⟩, VRs.step (stepSame sm) _ _ r⟩
/-- tuple * int, none to a thousand times -/
theorem op_repF : OpR X (binaryOp .Mult) (fun x y H Q => ∃ l k xs, x = .ref l ∧ y = .int k ∧ SqT X.K H l xs ∧ xs ≠ [] ∧ 0 ≤ k ∧ k ≤ 1000 ∧ xs.length ≤ 1000 ∧ (k = 1 → Q (.ref l) H) ∧ ∀ p, H p = none → Q (.ref p) (upd H p (.tup (List.replicate k.toNat xs).flatten))) := by
  intro pins s σ H x y v u Q I rx ry ⟨l, k, xs, e1, e2, hT, hne, h0, h1, hz, q1, q⟩
  by_cases h2 : 2 ≤ k
  · exact op_repT pins s σ H x y v u Q I rx ry ⟨l, k, xs, e1, e2, hT, hne, h2, h1, hz, q⟩
  subst e1 e2
  cases rx
  obtain ⟨t, rfl⟩ := ry
  obtain ⟨its, r, ⟨⟨cls, dd, data, sl⟩, ho, hc, n, hd⟩, hs⟩ := I.tuple hT
  simp only at hc hd
  subst hc hd
  have hle : its.length = xs.length := r.length.symm
  have hi : its.toArray.isEmpty = false := by
    cases its with
    | nil => exact absurd (List.eq_nil_of_length_eq_zero hle.symm) hne
    | cons a b => rfl
  have c0 : (decide (k < -(2 ^ 63)) || decide (k ≥ 2 ^ 63)) = false := by
    rw [decide_eq_false (by omega), decide_eq_false (by omega)] <;> rfl
  by_cases h3 : k = 1
  · have c1 : (its.toArray.isEmpty || k == 1) = true := by rw [h3]; simp
    exact wpAny_binaryOp_repeat_ref (T := "tuple") (U := "int") (by decide) ⟨_, ho, rfl⟩ (fun s' => typeIs_int s' k t) noFill_tuple_mul F.fills_int_mul F.slot_int_rmul repeat_tuple F.slot_int_index.lookup
      (call_meets F.slot_int_rmul (typeIs_int s k t) F.entry_int_rmul (F.args_int_rmul_2 _ _) (int_rmul_tuple k t l its.toArray n dd sl)
        ⟨ho, rfl, ⟨_, ho, rfl⟩, call_meets F.slot_tuple_mul ⟨_, ho, rfl⟩ F.entry_tuple_mul (F.args_tuple_mul_2 _ _) (tuple_mul1W l its.toArray n dd sl k t c0 c1) ⟨ho, ⟨.ref l, H, I, rfl, q1 h3⟩⟩⟩)
  · have c1 : (its.toArray.isEmpty || k == 1) = false := by
      rw [hi, Bool.false_or]
      exact beq_eq_false_iff_ne.mpr h3
    have c2 : (decide (k ≤ 0) || its.toArray.isEmpty) = true := by
      rw [decide_eq_true (by omega)]; rfl
    have ek : k.toNat = 0 := by omega
    rw [ek] at q
    refine wpAny_binaryOp_repeat_ref (T := "tuple") (U := "int") (by decide) ⟨_, ho, rfl⟩ (fun s' => typeIs_int s' k t) noFill_tuple_mul F.fills_int_mul F.slot_int_rmul repeat_tuple F.slot_int_index.lookup
      (call_meets F.slot_int_rmul (typeIs_int s k t) F.entry_int_rmul (F.args_int_rmul_2 _ _) (int_rmul_tuple k t l its.toArray n dd sl)
        ⟨ho, rfl, ⟨_, ho, rfl⟩, call_meets F.slot_tuple_mul ⟨_, ho, rfl⟩ F.entry_tuple_mul (F.args_tuple_mul_2 _ _) (tuple_mul0W l its.toArray n dd sl k t c0 c1 c2) ⟨ho, ?_⟩⟩)
    refine ⟨.ref s.heap.objs.size, _, I.laid (t' := s.toks) (o := .tup []) (fun b ob q => Heap.get?_push_of_some _ q) (Nat.le_refl _) ?_, rfl, q _ (I.hok.fresh (Nat.le_refl _))⟩
    exact ⟨Nat.zero_le _, _, .nil, IsTup.new _ _⟩
theorem VRs.rep {ρ : List Addr} {H : Hp} {xs : List Vl} {vs : List V} (h : VRs G ρ H xs vs) : ∀ n : Nat, VRs G ρ H (List.replicate n xs).flatten (List.replicate n vs).flatten
  | 0 => VRs.nil
  | n + 1 => by
    rw [List.replicate_succ, List.replicate_succ, List.flatten_cons, List.flatten_cons]
    exact h.append (VRs.rep h n)
theorem op_bin (g : Good G k X) (op : Operator) : OpR X (binaryOp op) (rBin G op) := by
  intro pins st σ H x y v u Q I rx ry h
  obtain ⟨ρ, S, a, b, z, s, ra, rb, e, q⟩ := h
  unfold binop at e
  split at e
  · -- ints
    simp only [VR] at ra rb; subst ra rb; cases e
    exact op_add pins st σ H _ _ v u Q I rx ry ⟨_, _, rfl, rfl, q.now s (by simp only [VR])⟩
  · simp only [VR] at ra rb; subst ra rb
    split at e
    · rename_i hz
      cases e
      exact op_add_str pins st σ H _ _ v u Q I rx ry ⟨_, _, rfl, rfl, hz, q.now s (by simp only [VR])⟩
    · cases e
  · split at e
    · rename_i xs ys hz
      cases e
      have ra' := ra
      simp only [VR] at ra rb
      obtain ⟨p, vs, rfl, h1, h2⟩ := ra
      obtain ⟨p', ws, rfl, h3, h4⟩ := rb
      refine op_catT pins st σ H _ _ v u Q I rx ry ⟨p, p', vs, ws, rfl, rfl, by rw [g.K]; exact h1.sq, by rw [g.K]; exact h3.sq, ?_, by rw [← h2.length, ← h4.length]; exact hz.1, fun e => ?_, fun e p hp => ?_⟩
      · intro e; subst e
        have := h2.length
        exact hz.2 (List.eq_nil_of_length_eq_zero (by simpa using this))
      · subst e
        have := h4.length
        obtain rfl : ys = [] := List.eq_nil_of_length_eq_zero (by simpa using this)
        rw [List.append_nil] at q
        exact q.now s ra'
      · exact q.tup s (h2.append h4) hp
    · cases e
  · simp only [VR] at ra rb; subst ra rb; cases e
    exact op_sub pins st σ H _ _ v u Q I rx ry ⟨_, _, rfl, rfl, q.now s (by simp only [VR])⟩
  · simp only [VR] at ra rb; subst ra rb
    split at e
    · rename_i hz
      cases e
      refine op_mul pins st σ H _ _ v u Q I rx ry ⟨_, _, rfl, rfl, ?_, q.now s (by simp only [VR])⟩
      simp only [mulOk, Bool.or_eq_true, Bool.and_eq_true, decide_eq_true_eq] at hz
      exact hz
    · cases e
  · split at e
    · rename_i xs n hz
      cases e
      have ra' := ra
      simp only [VR] at ra rb
      subst rb
      obtain ⟨p, vs, rfl, h1, h2⟩ := ra
      refine op_repF pins st σ H _ _ v u Q I rx ry ⟨p, n, vs, rfl, rfl, by rw [g.K]; exact h1.sq, fun e => ?_, hz.2.1, hz.2.2.1, by rw [← h2.length]; exact hz.2.2.2, fun e => ?_, fun p' hp => q.tup s (h2.rep _) hp⟩
      · subst e
        exact hz.1 (List.eq_nil_of_length_eq_zero h2.length)
      · subst e
        have e1 : (List.replicate (1 : Int).toNat xs).flatten = xs := by simp
        rw [e1] at q
        exact q.now s ra'
    · cases e
  · simp only [VR] at ra rb; subst ra rb
    split at e
    · rename_i hz
      cases e
      exact op_fdiv pins st σ H _ _ v u Q I rx ry ⟨_, _, rfl, rfl, hz, q.now s (by simp only [VR])⟩
    · cases e
  · simp only [VR] at ra rb; subst ra rb
    split at e
    · rename_i hz
      cases e
      exact op_mod pins st σ H _ _ v u Q I rx ry ⟨_, _, rfl, rfl, hz, q.now s (by simp only [VR])⟩
    · cases e
  · simp only [VR] at ra rb; subst ra rb
    split at e
    · rename_i hz
      cases e
      exact op_pow pins st σ H _ _ v u Q I rx ry ⟨_, _, rfl, rfl, hz, q.now s (by simp only [VR])⟩
    · cases e
  · cases e

/-! ### comparisons without a call -/
def rCmp (G : Glb) (op : CmpOp) : R2 := fun x y H Q => ∃ ρ S a b z, Sim G ρ H S ∧ VR G ρ H a x ∧ VR G ρ H b y ∧ cmpop op S a b = some z ∧ Q (.bl z) H
theorem fin_eq {ρ : List Addr} {H : Hp} {S : Hs} {a b : Vl} {x y : V} {z : Bool} (s : Sim G ρ H S) (ra : VR G ρ H a x) (rb : VR G ρ H b y) (e : dataEq S a b = some z) : ∃ d f, Dp G.K H x d ∧ Dp G.K H y f ∧ SeqAt.shaped d = true ∧ SeqAt.shaped f = true ∧ z = PyData.eqv d f := by
  unfold dataEq at e
  split at e
  · rename_i d f e1 e2
    split at e
    · rename_i hs
      cases e
      exact ⟨d, f, dp_of s ra e1, dp_of s rb e2, hs.1, hs.2, rfl⟩
    · cases e
  · cases e
theorem op_mem (g : Good G k X) : OpR X (compareOp .In) (fun x y H Q => ∃ ρ S a b z, Sim G ρ H S ∧ VR G ρ H a x ∧ VR G ρ H b y ∧ memF S a b = some z ∧ Q (.bl z) H) := by
  intro pins st σ H x y v u Q I rx ry h
  obtain ⟨ρ, S, a, b, z, s, ra, rb, e, q⟩ := h
  unfold memF at e
  split at e
  · rename_i z'
    split at e
    · rename_i w
      split at e
      · rename_i hw
        simp only [VR] at ra rb; subst ra rb; cases e
        have hc : w = ⟨#[w.cps.getD 0 0]⟩ := by
          obtain ⟨c⟩ := w
          have hs : c.size = 1 := hw
          congr 1
          apply Array.ext
          · simpa using hs
          · intro i h1 h2
            have : i = 0 := by omega
            subst this
            simp [Array.getD, hs]
        refine op_in_sign pins st σ H (.str w) (.str z') v u Q I rx ry ⟨w.cps.getD 0 0, z', by rw [← hc], rfl, q⟩
      · cases e
    · cases e
  · split at e
    · rename_i ks xs ed
      obtain ⟨p, kvs, rfl, h1, h2, h3⟩ := dct_of s rb ed
      obtain ⟨k', ek, rfl⟩ := Option.map_eq_some_iff.mp e
      obtain rfl : u = Value.ref p := ry
      have hx : x = kV k' := by
        cases a <;> simp only [Vl.key] at ek <;> cases ek <;> (simp only [VR] at ra; subst ra; rfl)
      subst hx
      refine d_in g.u1 I (dgR h1) rx fun s' I' => ⟨.bl _, H, I', rfl, ?_⟩
      rw [← any_kv h2]
      exact q
    · split at e
      · rename_i ys es
        split at e
        · rename_i hf
          cases e
          rw [Bool.and_eq_true] at hf
          obtain ⟨p, vs, rfl, h1, h2⟩ := seq_of s rb es
          obtain ⟨f1, f2⟩ := h2.flats ra hf.2 hf.1
          refine op_in_seq pins st σ H x _ v u Q I rx ry ⟨p, vs, rfl, by rw [g.K]; exact h1, ra.flat hf.1, f1, ?_⟩
          rw [if_neg Bool.false_ne_true, f2]
          exact q
        · cases e
      · cases e
theorem op_nmem (g : Good G k X) : OpR X (compareOp .NotIn) (fun x y H Q => ∃ ρ S a b z, Sim G ρ H S ∧ VR G ρ H a x ∧ VR G ρ H b y ∧ memF S a b = some z ∧ Q (.bl (!z)) H) := by
  intro pins st σ H x y v u Q I rx ry h
  obtain ⟨ρ, S, a, b, z, s, ra, rb, e, q⟩ := h
  unfold memF at e
  split at e
  · rename_i z'
    split at e
    · rename_i w
      split at e
      · rename_i hw
        simp only [VR] at ra rb; subst ra rb; cases e
        have hc : w = ⟨#[w.cps.getD 0 0]⟩ := by
          obtain ⟨c⟩ := w
          have hs : c.size = 1 := hw
          congr 1
          apply Array.ext
          · simpa using hs
          · intro i h1 h2
            have : i = 0 := by omega
            subst this
            simp [Array.getD, hs]
        refine op_notIn_sign pins st σ H (.str w) (.str z') v u Q I rx ry ⟨w.cps.getD 0 0, z', by rw [← hc], rfl, q⟩
      · cases e
    · cases e
  · split at e
    · rename_i ks xs ed
      obtain ⟨p, kvs, rfl, h1, h2, h3⟩ := dct_of s rb ed
      obtain ⟨k', ek, rfl⟩ := Option.map_eq_some_iff.mp e
      obtain rfl : u = Value.ref p := ry
      have hx : x = kV k' := by
        cases a <;> simp only [Vl.key] at ek <;> cases ek <;> (simp only [VR] at ra; subst ra; rfl)
      subst hx
      refine d_notIn g.u1 I (dgR h1) rx fun s' I' => ⟨.bl _, H, I', rfl, ?_⟩
      rw [← any_kv h2]
      exact q
    · split at e
      · rename_i ys es
        split at e
        · rename_i hf
          cases e
          rw [Bool.and_eq_true] at hf
          obtain ⟨p, vs, rfl, h1, h2⟩ := seq_of s rb es
          obtain ⟨f1, f2⟩ := h2.flats ra hf.2 hf.1
          refine op_notIn_seq pins st σ H x _ v u Q I rx ry ⟨p, vs, rfl, by rw [g.K]; exact h1, ra.flat hf.1, f1, ?_⟩
          rw [if_pos rfl, f2]
          exact q
        · cases e
      · cases e
theorem VR.isN {ρ : List Addr} {H : Hp} {a : Vl} {x : V} (r : VR G ρ H a x) : decide (x = V.non) = a.isNon := by
  cases a <;> simp only [VR] at r <;> first
    | (subst r; rfl)
    | (obtain ⟨p, vs, rfl, _⟩ := r; rfl)
    | (obtain ⟨p, dx, fs, rfl, _⟩ := r; rfl)
    | (obtain ⟨p, rfl, _⟩ := r; rfl)
theorem eqS_of {ρ : List Addr} {H : Hp} {a b : Vl} {x y : V} {z : Bool} (ra : VR G ρ H a x) (rb : VR G ρ H b y) (e : eqS a b = some z) : scal x y = true ∧ z = decide (x = y) := by
  unfold eqS at e
  split at e
  all_goals first
    | (simp only [VR] at ra rb; subst ra rb; cases e; exact ⟨rfl, by simp⟩)
    | cases e
theorem eqS_run {P : Program} {w : World} {A : Around} {s : Shared} {ρ : List Addr} {H : Hp} {a b : Vl} {x y : V} {z : Bool} {v u : Value} (ra : VR G ρ H a x) (rb : VR G ρ H b y) (e : eqS a b = some z) (rx : RelV x v) (ry : RelV y u) : SeqAt.EqP P w A s v u z := by
  unfold eqS at e
  split at e
  · simp only [VR] at ra rb; subst ra rb; cases e
    obtain ⟨t, rfl⟩ := rx
    obtain ⟨t', rfl⟩ := ry
    exact (SeqAt.EqAt.int_int _ t _ t').eqP
  · simp only [VR] at ra rb; subst ra rb; cases e
    cases rx; cases ry
    exact (SeqAt.EqAt.bool_bool _ _).eqP
  · simp only [VR] at ra rb; subst ra rb; cases e
    obtain ⟨t, rfl⟩ := rx
    obtain ⟨t', rfl⟩ := ry
    exact (SeqAt.EqAt.str_str _ t _ t').eqP
  · cases e
theorem look_no : ∀ {ks : List Key} {xs : List Vl} {kvs : List (Key × V)} {k : Key} {ρ : List Addr} {H : Hp}, kvs.map (·.1) = ks → VRs G ρ H xs (kvs.map (·.2)) → lookG ks xs k = none → valV kvs k = none
  | [], _, [], _, _, _, _, _, _ => rfl
  | [], _, _ :: _, _, _, _, h, _, _ => by simp at h
  | _ :: _, _, [], _, _, _, h, _, _ => by simp at h
  | n :: ns, [], _ :: _, _, _, _, _, h, _ => by simp [VRs] at h
  | n :: ns, y :: xs, (m, v) :: fs, f, ρ, H, h, k, e => by
    simp only [List.map_cons, List.cons.injEq] at h
    obtain ⟨rfl, h⟩ := h
    simp only [List.map_cons, VRs] at k
    obtain ⟨v', r, e1, k1, k2⟩ := k
    cases e1
    simp only [lookG] at e
    by_cases q : m = f
    · rw [if_pos q] at e; cases e
    · rw [if_neg q] at e
      rw [valV_neg (p := (m, v)) q]
      exact look_no h k2 e
theorem hits_dct {P : Program} {w : World} {A : Around} {s : Shared} {ρ : List Addr} {H : Hp} {S : Hs} {ks' : List Key} {xs' : List Vl} {ls : List (Key × V)} {vb : List (Key × Value)} (hk : ls.map (·.1) = ks') (hv : VRs G ρ H xs' (ls.map (·.2))) (rb : KV ls vb) :
    ∀ (ks : List Key) (xs : List Vl) (kvs : List (Key × V)) (va : List (Key × Value)) (z : Bool), kvs.map (·.1) = ks → VRs G ρ H xs (kvs.map (·.2)) → KV kvs va → hitsD S ks xs ks' xs' = some z → PySem.W.KeqHitsP P w A s vb va z
  | [], _, [], va, z, _, _, ra, e => by
    cases ra
    simp only [hitsD, Option.some.injEq] at e
    subst e
    exact .nil
  | [], _, _ :: _, _, _, h, _, _, _ => by simp at h
  | _ :: _, _, [], _, _, h, _, _, _ => by simp at h
  | n :: ns, [], _ :: _, _, _, _, h, _, _ => by simp [VRs] at h
  | n :: ns, y :: xs, (m, v) :: fs, va, z, h, k, ra, e => by
    simp only [List.map_cons, List.cons.injEq] at h
    obtain ⟨rfl, h⟩ := h
    simp only [List.map_cons, VRs] at k
    obtain ⟨v', r, e1, k1, k2⟩ := k
    cases e1
    unfold KV at ra
    cases ra with
    | @cons _ q _ qs hq rq =>
      obtain ⟨q1, q2⟩ := q
      obtain ⟨e0, rv⟩ := hq
      simp only at e0 rv
      subst e0
      simp only [hitsD] at e
      split at e
      · rename_i el
        cases e
        have e2 := look_no hk hv el
        have e3 := rb.val m
        rw [e2] at e3
        refine .miss ?_
        cases ev : valueAt vb m with
        | none => rfl
        | some u => rw [ev] at e3; exact e3.elim
      · rename_i wv el
        split at e
        · rename_i b eb
          obtain ⟨b', e4, rfl⟩ := Option.map_eq_some_iff.mp e
          obtain ⟨wu, e5, hw⟩ := look_kv hk hv el
          have e3 : RelO (some wu) (valueAt vb m) := by rw [← e5]; exact rb.val m
          obtain ⟨u, hu, ru⟩ := e3.some_of
          exact .hit hu (eqS_run k1 hw eb rv ru) (hits_dct (S := S) hk hv rb ns xs fs qs b' h k2 rq e4)
        · cases e
theorem op_eqd (g : Good G k X) : OpR X (compareOp .Eq) (fun x y H Q => ∃ ρ S a b z, Sim G ρ H S ∧ VR G ρ H a x ∧ VR G ρ H b y ∧ eqDct S a b = some z ∧ Q (.bl z) H) := by
  intro pins s σ H x y v u Q I rx ry ⟨ρ, S, a, b, z, s0, ra, rb, e, q⟩
  unfold eqDct at e
  split at e
  · rename_i ks vs ks' vs' e1 e2
    obtain ⟨p, kvs, rfl, h1, h2, h3⟩ := dct_of s0 ra e1
    obtain ⟨p', ls, rfl, h4, h5, h6⟩ := dct_of s0 rb e2
    cases (show v = Value.ref p from rx)
    cases (show u = Value.ref p' from ry)
    obtain ⟨_, ya, va, r1, da⟩ := dk_rd I.hok h1
    obtain ⟨_, yb, vb, r2, db⟩ := dk_rd I.hok h4
    have l1 : va.length = ks.length := by rw [← r1.length, ← h2, List.length_map]
    have l2 : vb.length = ks'.length := by rw [← r2.length, ← h5, List.length_map]
    split at e
    · rename_i hl
      refine PySem.W.rcP_dicts (knd := mixKind X.prog X.w) (r := z) ya yb da db (by have := g.u64; omega) (fun _ => hits_dct (S := S) h5 h6 r2 ks vs kvs va z h2 h3 r1 e) X.xe _ ?_
      rw [show (va.length == vb.length && z) = z by rw [l1, l2, hl]; simp]
      exact ⟨.bl z, H, I, rfl, q⟩
    · rename_i hl
      cases e
      refine PySem.W.rcP_dicts (knd := mixKind X.prog X.w) (r := true) ya yb da db (by have := g.u64; omega) (fun z => absurd z (by rw [l1, l2]; exact hl)) X.xe _ ?_
      rw [show (va.length == vb.length && true) = false by rw [l1, l2]; simp [hl]]
      exact ⟨.bl false, H, I, rfl, q⟩
  · cases e
theorem eqop_of {ρ : List Addr} {H : Hp} {S : Hs} {a b : Vl} {x y : V} {z : Bool} (ra : VR G ρ H a x) (rb : VR G ρ H b y) (e : eqop S a b = some z) : (scal x y = true ∧ z = decide (x = y)) ∨ eqDct S a b = some z ∨ (eqDct S a b = none ∧ dataEq S a b = some z) := by
  unfold eqop at e
  split at e
  · rename_i c ec
    cases e
    exact .inl (eqS_of ra rb ec)
  · split at e
    · rename_i c ec
      cases e
      exact .inr (.inl ec)
    · rename_i ec
      exact .inr (.inr ⟨ec, e⟩)
theorem op_cmp (g : Good G k X) (op : CmpOp) : OpR X (compareOp op) (rCmp G op) := by
  intro pins st σ H x y v u Q I rx ry h
  obtain ⟨ρ, S, a, b, z, s, ra, rb, e, q⟩ := h
  cases op with
  | Eq =>
    rcases eqop_of ra rb (show eqop S a b = some z from e) with ⟨h1, rfl⟩ | e1 | ⟨_, e1⟩
    · exact op_eq pins st σ H _ _ v u Q I rx ry ⟨h1, q⟩
    · exact op_eqd g pins st σ H _ _ v u Q I rx ry ⟨ρ, S, a, b, z, s, ra, rb, e1, q⟩
    · obtain ⟨d, f, h1, h2, h3, h4, rfl⟩ := fin_eq s ra rb e1
      exact op_eqD g.u64 pins st σ H _ _ v u Q I rx ry ⟨d, f, by rw [g.K]; exact h1, by rw [g.K]; exact h2, h3, h4, q⟩
  | NotEq =>
    have e0 : (if (eqDct S a b).isSome then none else (eqop S a b).map not) = some z := e
    split at e0
    · cases e0
    rename_i nd
    obtain ⟨z', e1, rfl⟩ := Option.map_eq_some_iff.mp e0
    rcases eqop_of ra rb e1 with ⟨h1, rfl⟩ | e1 | ⟨_, e1⟩
    · exact op_ne pins st σ H _ _ v u Q I rx ry ⟨h1, q⟩
    · rw [e1] at nd; exact absurd rfl nd
    · obtain ⟨d, f, h1, h2, h3, h4, rfl⟩ := fin_eq s ra rb e1
      exact op_neD g.u64 pins st σ H _ _ v u Q I rx ry ⟨d, f, by rw [g.K]; exact h1, by rw [g.K]; exact h2, h3, h4, q⟩
  | Lt =>
    simp only [cmpop] at e
    split at e
    · simp only [VR] at ra rb; subst ra rb; cases e
      exact op_lt pins st σ H _ _ v u Q I rx ry ⟨_, _, rfl, rfl, q⟩
    · cases e
  | LtE =>
    simp only [cmpop] at e
    split at e
    · simp only [VR] at ra rb; subst ra rb; cases e
      exact op_le pins st σ H _ _ v u Q I rx ry ⟨_, _, rfl, rfl, q⟩
    · cases e
  | Gt =>
    simp only [cmpop] at e
    split at e
    · simp only [VR] at ra rb; subst ra rb; cases e
      exact op_gt pins st σ H _ _ v u Q I rx ry ⟨_, _, rfl, rfl, q⟩
    · cases e
  | GtE =>
    simp only [cmpop] at e
    split at e
    · simp only [VR] at ra rb; subst ra rb; cases e
      exact op_ge pins st σ H _ _ v u Q I rx ry ⟨_, _, rfl, rfl, q⟩
    · cases e
  | Is =>
    simp only [cmpop] at e
    split at e
    · simp only [VR] at rb; subst rb; cases e
      refine op_isN pins st σ H _ _ v u Q I rx ry ⟨rfl, ?_⟩
      rw [ra.isN]; exact q
    · cases e
  | IsNot =>
    simp only [cmpop] at e
    split at e
    · simp only [VR] at rb; subst rb; cases e
      refine op_notN pins st σ H _ _ v u Q I rx ry ⟨rfl, ?_⟩
      rw [ra.isN]; exact q
    · cases e
  | In => exact op_mem g pins st σ H x y v u Q I rx ry ⟨ρ, S, a, b, z, s, ra, rb, e, q⟩
  | NotIn =>
    obtain ⟨z', e1, rfl⟩ := Option.map_eq_some_iff.mp (show (memF S a b).map not = some z from e)
    exact op_nmem g pins st σ H x y v u Q I rx ry ⟨ρ, S, a, b, z', s, ra, rb, e1, q⟩
end

/-! ### expressions -/
section
variable {G : Glb} {k : Nat} {X : Cx} {M : Mach} {W : WX} {a b c : Expr} {ca cb cc : E} {pos : Pos}
theorem pe_vari {i : Nat} {x : Str} (hN : X.N[i]? = some x) (hv : Vis X.env.scope x) (hd : (x == ("__debug__" : Str)) = false) (hcd : (x == ("__classdict__" : Str)) = false) : PE X (.Name x pos) (tE G M W (.var i)) :=
  (pe_var hN hv hd hcd).imp fun σ H Q ⟨ρ, η, S, s, r, h⟩ => by
    have h' : PR G W σ ρ H (match η[i]? with | some (some x) => Res.ok x S | _ => .bad) (okV G Q) := h
    split at h'
    · rename_i x e
      obtain ⟨v, e1, e2⟩ := r.at_ i x e
      exact ⟨v, e1, (h'.here s) v e2⟩
    · exact h'.elim
/-- constants -/
theorem pe_csti {e : Expr} {x : Vl} {v : V} (he : PE X e (tC v)) (hx : ∀ ρ H, VR G ρ H x v) : PE X e (tE G M W (.cst x)) :=
  he.imp fun σ H Q ⟨ρ, η, S, s, r, h⟩ => (PR.here h s) v (hx ρ H)
theorem pe_bin (g : Good G k X) (op : Operator) (ha : PE X a (tE G M W ca)) (hb : PE X b (tE G M W cb)) : PE X (.BinOp a op b pos) (tE G M W (.bin op ca cb)) :=
  (pe_op (op_bin g op) ha hb).imp fun σ H Q ⟨ρ, η, S, s, r, h⟩ => ⟨ρ, η, S, s, r, (PR.bind h).mono fun ρ1 H1 x S1 st1 s1 h1 v hv => ⟨ρ1, η, S1, s1, r.step st1, (PR.bind h1).mono fun ρ2 H2 y S2 st2 s2 h2 w hw => by
    obtain ⟨z, e, h3⟩ := PR.ofO h2
    exact ⟨ρ2, S2, x, y, z, s2, hv.step st2, hw, e, h3⟩⟩⟩
/-- a op b op c -/
theorem pe_chni (g : Good G k X) (o1 o2 : CmpOp) (ha : PE X a (tE G M W ca)) (hb : PE X b (tE G M W cb)) (hc : PE X c (tE G M W cc)) (hm : lastMarks [o1, o2] [b, c] = false) : PE X (.Compare a [o1, o2] [b, c] pos) (tE G M W (.chn o1 o2 ca cb cc)) :=
  (pe_chain (op_cmp g o1) (op_cmp g o2) ha hb hc hm).imp fun σ H Q ⟨ρ, η, S, s, r, h⟩ => ⟨ρ, η, S, s, r, (PR.bind h).mono fun ρ1 H1 x S1 st1 s1 h1 v hv => ⟨ρ1, η, S1, s1, r.step st1, (PR.bind h1).mono fun ρ2 H2 y S2 st2 s2 h2 w hw => by
    obtain ⟨z, e, h3⟩ := PR.ofO (PR.bind h2)
    have h4 := h3.here s2
    refine ⟨ρ2, S2, x, y, z, s2, hv.step st2, hw, e, z, rfl, ?_⟩
    cases z with
    | false =>
      rw [if_neg Bool.false_ne_true] at h4 ⊢
      exact (PR.here h4 s2) _ (by simp only [VR])
    | true =>
      rw [if_pos rfl] at h4 ⊢
      refine ⟨ρ2, η, S2, s2, (r.step st1).step st2, (PR.bind h4).mono fun ρ3 H3 z S3 st3 s3 h5 w' hw' => ?_⟩
      obtain ⟨z', e', h6⟩ := PR.ofO (PR.bind h5)
      have h7 := PR.here (h6.here s3) s3
      exact ⟨ρ3, S3, y, z, z', s3, hw.step st3, hw', e', h7 _ (by simp only [VR])⟩⟩⟩
/-- and, or, not of bools as values -/
theorem pe_bandi {rest : List Expr} (ha : PE X a (tE G M W ca)) (hb : PE X (.BoolOp .And (b :: rest) pos) (tE G M W cb)) : PE X (.BoolOp .And (a :: b :: rest) pos) (tE G M W (.band ca cb)) :=
  (pe_and ha hb).imp fun σ H Q ⟨ρ, η, S, s, r, h⟩ => ⟨ρ, η, S, s, r, (PR.bind h).mono fun ρ1 H1 x S1 st1 s1 h1 v hv => by
    cases x with
    | bl d =>
      simp only [VR] at hv; subst hv
      refine ⟨d, rfl, ?_⟩
      cases d with
      | true => rw [if_pos rfl]; exact ⟨ρ1, η, S1, s1, r.step st1, h1⟩
      | false => rw [if_neg Bool.false_ne_true]; exact (PR.here h1 s1) _ (by simp only [VR])
    | _ => exact h1.elim⟩
theorem pe_bori {rest : List Expr} (ha : PE X a (tE G M W ca)) (hb : PE X (.BoolOp .Or (b :: rest) pos) (tE G M W cb)) : PE X (.BoolOp .Or (a :: b :: rest) pos) (tE G M W (.bor ca cb)) :=
  (pe_or ha hb).imp fun σ H Q ⟨ρ, η, S, s, r, h⟩ => ⟨ρ, η, S, s, r, (PR.bind h).mono fun ρ1 H1 x S1 st1 s1 h1 v hv => by
    cases x with
    | bl d =>
      simp only [VR] at hv; subst hv
      refine ⟨d, rfl, ?_⟩
      cases d with
      | true => rw [if_pos rfl]; exact (PR.here h1 s1) _ (by simp only [VR])
      | false => rw [if_neg Bool.false_ne_true]; exact ⟨ρ1, η, S1, s1, r.step st1, h1⟩
    | _ => exact h1.elim⟩
theorem pe_bnoti (ha : PE X a (tE G M W ca)) : PE X (.UnaryOp .Not a pos) (tE G M W (.bnot ca)) :=
  (pe_not ha).imp fun σ H Q ⟨ρ, η, S, s, r, h⟩ => ⟨ρ, η, S, s, r, (PR.bind h).mono fun ρ1 H1 x S1 st1 s1 h1 v hv => by
    cases x with
    | bl d =>
      simp only [VR] at hv; subst hv
      exact ⟨d, rfl, (PR.here h1 s1) _ (by simp only [VR])⟩
    | _ => exact h1.elim⟩
theorem pe_negi (ha : PE X a (tE G M W ca)) : PE X (.UnaryOp .USub a pos) (tE G M W (.neg ca)) :=
  (pe_un un_neg ha).imp fun σ H Q ⟨ρ, η, S, s, r, h⟩ => ⟨ρ, η, S, s, r, (PR.bind h).mono fun ρ1 H1 x S1 st1 s1 h1 v hv => by
    cases x with
    | int d =>
      simp only [VR] at hv; subst hv
      exact ⟨d, rfl, (PR.here h1 s1) _ (by simp only [VR])⟩
    | _ => exact h1.elim⟩
/-- tests -/
def okB (Q : Bool → Hp → Prop) : List Addr → Hp → Vl → Hs → Prop := fun _ H' x _ => ∃ d, x = .bl d ∧ Q d H'
def tQ (G : Glb) (M : Mach) (W : WX) (c : E) : TT := fun σ H Q => ∃ ρ η S, Sim G ρ H S ∧ ER G ρ H η σ ∧ PR G W σ ρ H (ev M c η S) (okB Q)
/-- a test by its value -/
theorem pt_vali {e : Expr} (h : PE X e (tE G M W ca)) (he : ∀ whole, isTrue e X.env whole = (do let v ← whole; standAt e.pos; holding [v] (truthy v))) : PT X e (tQ G M W ca) :=
  (pt_val h he).imp fun σ H Q ⟨ρ, η, S, s, r, h⟩ => ⟨ρ, η, S, s, r, h.mono fun ρ1 H1 x S1 st1 s1 ⟨d, e, q⟩ v hv => by
    subst e
    simp only [VR] at hv
    exact ⟨d, hv, q⟩⟩
theorem tru_of {ρ : List Addr} {H : Hp} {S : Hs} {x : Vl} {v : V} {d : Bool} (s : Sim G ρ H S) (r : VR G ρ H x v) (e : truth S x = some d) : TruV G.K v H d := by
  cases x with
  | non => simp only [VR] at r; subst r; simp only [truth, Option.some.injEq] at e; exact e.symm
  | bl b => simp only [VR] at r; subst r; simp only [truth, Option.some.injEq] at e; exact e.symm
  | int b => simp only [VR] at r; subst r; simp only [truth, Option.some.injEq] at e; exact e.symm
  | str b =>
    simp only [VR] at r; subst r
    simp only [truth] at e
    split at e
    · rename_i hz; cases e; exact ⟨hz, rfl⟩
    · cases e
  | _ =>
    simp only [truth] at e
    split at e
    · rename_i ys es
      cases e
      obtain ⟨p, vs, rfl, h1, h2⟩ := seq_of s r es
      have he : (!ys.isEmpty) = !vs.isEmpty := by
        have := h2.length
        cases ys <;> cases vs <;> simp_all
      rcases h1 with h1 | h1
      · exact .inl ⟨vs, h1, he⟩
      · exact .inr (.inl ⟨vs, h1, he⟩)
    · cases e
theorem pt_trui (g : Good G k X) {e : Expr} (h : PE X e (tE G M W ca)) (he : ∀ whole, isTrue e X.env whole = (do let v ← whole; standAt e.pos; holding [v] (truthy v))) : PT X e (tQ G M W (.tru ca)) :=
  (pt_truth h he).imp fun σ H Q ⟨ρ, η, S, s, r, h⟩ => ⟨ρ, η, S, s, r, (PR.bind h).mono fun ρ1 H1 x S1 st1 s1 h1 v hv => by
    obtain ⟨d, e, h2⟩ := PR.ofO (PR.bind h1)
    obtain ⟨d', e', q⟩ := PR.here (h2.here s1) s1
    cases e'
    exact ⟨d, by rw [g.K]; exact tru_of s1 hv e, q⟩⟩
theorem pw_and1i (ha : PT X a (tQ G M W ca)) : PW X (.BoolOp .And [a] pos) (tQ G M W ca) := pw_and1 ha
theorem pw_or1i (ha : PT X a (tQ G M W ca)) : PW X (.BoolOp .Or [a] pos) (tQ G M W ca) := pw_or1 ha
theorem _root_.L2.PW.imp {X : Cx} {e : Expr} {t t' : TT} (h : PW X e t) (k : ∀ σ H Q, t' σ H Q → t σ H Q) : PW X e t' := ⟨fun wh pins s σ H Q I q => h.run wh pins s σ H Q I (k σ H Q q)⟩
theorem pw_andi {rest : List Expr} (ha : PT X a (tQ G M W ca)) (hb : PW X (.BoolOp .And (b :: rest) pos) (tQ G M W cb)) : PW X (.BoolOp .And (a :: b :: rest) pos) (tQ G M W (.band ca cb)) :=
  (pw_and ha hb).imp fun σ H Q ⟨ρ, η, S, s, r, h⟩ => ⟨ρ, η, S, s, r, (PR.bind h).mono fun ρ1 H1 x S1 st1 s1 h1 => by
    cases x with
    | bl d =>
      refine ⟨d, rfl, ?_⟩
      cases d with
      | true => rw [if_pos rfl]; exact ⟨ρ1, η, S1, s1, r.step st1, h1⟩
      | false =>
        rw [if_neg Bool.false_ne_true]
        obtain ⟨d', e', q⟩ := PR.here h1 s1
        cases e'; exact q
    | _ => exact h1.elim⟩
theorem pw_ori {rest : List Expr} (ha : PT X a (tQ G M W ca)) (hb : PW X (.BoolOp .Or (b :: rest) pos) (tQ G M W cb)) : PW X (.BoolOp .Or (a :: b :: rest) pos) (tQ G M W (.bor ca cb)) :=
  (pw_or ha hb).imp fun σ H Q ⟨ρ, η, S, s, r, h⟩ => ⟨ρ, η, S, s, r, (PR.bind h).mono fun ρ1 H1 x S1 st1 s1 h1 => by
    cases x with
    | bl d =>
      refine ⟨d, rfl, ?_⟩
      cases d with
      | true =>
        rw [if_pos rfl]
        obtain ⟨d', e', q⟩ := PR.here h1 s1
        cases e'; exact q
      | false => rw [if_neg Bool.false_ne_true]; exact ⟨ρ1, η, S1, s1, r.step st1, h1⟩
    | _ => exact h1.elim⟩
theorem pt_noti (ha : PT X a (tQ G M W ca)) : PT X (.UnaryOp .Not a pos) (tQ G M W (.bnot ca)) :=
  (pt_not ha).imp fun σ H Q ⟨ρ, η, S, s, r, h⟩ => ⟨ρ, η, S, s, r, (PR.bind h).mono fun ρ1 H1 x S1 st1 s1 h1 => by
    cases x with
    | bl d =>
      obtain ⟨d', e', q⟩ := PR.here h1 s1
      cases e'; exact ⟨d, rfl, q⟩
    | _ => exact h1.elim⟩
theorem pt_chni (g : Good G k X) (o1 o2 : CmpOp) (ha : PE X a (tE G M W ca)) (hb : PE X b (tE G M W cb)) (hc : PE X c (tE G M W cc)) (hm : lastMarks [o1, o2] [b, c] = false) : PT X (.Compare a [o1, o2] [b, c] pos) (tQ G M W (.chn o1 o2 ca cb cc)) :=
  (pt_chain (op_cmp g o1) (op_cmp g o2) ha hb hc hm).imp fun σ H Q ⟨ρ, η, S, s, r, h⟩ => ⟨ρ, η, S, s, r, (PR.bind h).mono fun ρ1 H1 x S1 st1 s1 h1 v hv => ⟨ρ1, η, S1, s1, r.step st1, (PR.bind h1).mono fun ρ2 H2 y S2 st2 s2 h2 w hw => by
    obtain ⟨z, e, h3⟩ := PR.ofO (PR.bind h2)
    have h4 := h3.here s2
    refine ⟨ρ2, S2, x, y, z, s2, hv.step st2, hw, e, z, rfl, ?_⟩
    cases z with
    | false =>
      rw [if_neg Bool.false_ne_true] at h4 ⊢
      obtain ⟨d', e', q⟩ := PR.here h4 s2
      cases e'; exact ⟨false, rfl, q⟩
    | true =>
      rw [if_pos rfl] at h4 ⊢
      refine ⟨ρ2, η, S2, s2, (r.step st1).step st2, (PR.bind h4).mono fun ρ3 H3 z S3 st3 s3 h5 w' hw' => ?_⟩
      obtain ⟨z', e', h6⟩ := PR.ofO (PR.bind h5)
      obtain ⟨d', e2, q⟩ := PR.here (h6.here s3) s3
      cases e2
      exact ⟨ρ3, S3, y, z, z', s3, hw.step st3, hw', e', z', rfl, q⟩⟩⟩
theorem pe_itei {t : Expr} {ct : E} (ht : PT X t (tQ G M W ct)) (ha : PE X a (tE G M W ca)) (hb : PE X b (tE G M W cb)) : PE X (.IfExp t a b pos) (tE G M W (.ite ct ca cb)) :=
  (pe_ifExp ht ha hb).imp fun σ H Q ⟨ρ, η, S, s, r, h⟩ => ⟨ρ, η, S, s, r, (PR.bind h).mono fun ρ1 H1 x S1 st1 s1 h1 => by
    cases x with
    | bl d =>
      refine ⟨d, rfl, ?_⟩
      cases d with
      | true => rw [if_pos rfl]; exact ⟨ρ1, η, S1, s1, r.step st1, h1⟩
      | false => rw [if_neg Bool.false_ne_true]; exact ⟨ρ1, η, S1, s1, r.step st1, h1⟩
    | _ => exact h1.elim⟩
/-- argument lists -/
theorem pa_nili : PA X [] (tA G M W .nil) := pa_nil.imp fun σ H Q ⟨ρ, η, S, s, r, h⟩ => (PR.here h s) [] VRs.nil
theorem pa_consi {es : List Expr} {ces : Es} (ha : PE X a (tE G M W ca)) (hr : PA X es (tA G M W ces)) (hs : starEach (a :: es) X.env = (false, eval a X.env) :: starEach es X.env) : PA X (a :: es) (tA G M W (.cons ca ces)) :=
  (pa_cons ha hr hs).imp fun σ H Q ⟨ρ, η, S, s, r, h⟩ => ⟨ρ, η, S, s, r, (PR.bind h).mono fun ρ1 H1 x S1 st1 s1 h1 v hv => ⟨ρ1, η, S1, s1, r.step st1, (PR.bind h1).mono fun ρ2 H2 xs S2 st2 s2 h2 vs hvs => (PR.here h2 s2) _ (VRs.cons (hv.step st2) hvs)⟩⟩
theorem pe_tupi {es : List Expr} {ces : Es} {x1 : Nat} (h : PA X es (tA G M W ces)) : PE X (.Tuple es x1 pos) (tE G M W (.tup ces)) :=
  (pe_tup h).imp fun σ H Q ⟨ρ, η, S, s, r, h⟩ => ⟨ρ, η, S, s, r, (PR.bind h).mono fun ρ1 H1 xs S1 st1 s1 h1 vs hvs => by
    split at h1
    · rename_i hz
      refine ⟨by rw [← hvs.length]; exact hz, fun p hp => ?_⟩
      exact rFin.tup (ρ := ρ1) (fun ρ' H' st s' => PR.here (h1.step st) s') s1 hvs hp
    · exact h1.elim⟩
/-- own fields -/
theorem pe_fldi (g : Good G k X) {f : Str} (hC : ∀ c, Cls X.K (G.cl c)) (hf : ∀ c, NoAttr X.K (G.cl c) f) (ha : PE X a (tE G M W ca)) (hb : attributeBase a f X.env (eval a X.env) = eval a X.env) : PE X (.Attribute a f pos) (tE G M W (.fld ca f)) :=
  (pe_fld ha hb).imp fun σ H Q ⟨ρ, η, S, s, r, h⟩ => ⟨ρ, η, S, s, r, (PR.bind h).mono fun ρ1 H1 x S1 st1 s1 h1 v hv => by
    split at h1
    · rename_i c ns vs e
      obtain ⟨p, dx, fs, rfl, h2, h3, h4⟩ := ins_of s1 hv e
      obtain ⟨y, e1, h5⟩ := PR.ofO h1
      obtain ⟨w, e2, hw⟩ := look_fs h3 h4 e1
      exact ⟨p, _, dx, fs, w, rfl, h2, hC c, hf c, e2, (PR.here h5 s1) w hw⟩
    · exact h1.elim⟩
end
end Oz
set_option Elab.async false
set_option linter.all false
set_option maxRecDepth 100000
set_option maxHeartbeats 4000000
set_option autoImplicit false
/-! Oz: subscripts, built-ins, new things. -/
namespace Oz
open PySem L2 PyProof.Rows

section
variable {G : Glb} {k : Nat} {X : Cx} {ρ : List Addr} {H : Hp} {S : Hs}
theorem VRs.atI {xs : List Vl} {vs : List V} {i : Int} {x : Vl} (h : VRs G ρ H xs vs) (e : atI xs i = some x) : ∃ v, L2.atI vs i = some v ∧ VR G ρ H x v := by
  unfold L2.atI at e ⊢
  rw [← h.length]
  cases q : ixN xs.length i with
  | none => rw [q] at e; cases e
  | some j =>
    rw [q] at e
    exact h.get e
def rIdx (G : Glb) : R2 := fun x y H Q => ∃ ρ S a b z, Sim G ρ H S ∧ VR G ρ H a x ∧ VR G ρ H b y ∧ idxop S a b = some z ∧ rFin G ρ H S z Q
theorem ix_any (g : Good G k X) : IxR X (rIdx G) := by
  intro ve se pins st σ H x y v u Q I rx ry h hs
  obtain ⟨ρ, S, a, b, z, s, ra, rb, e, q⟩ := h
  unfold idxop at e
  split at e
  · simp only [VR] at ra rb; subst ra rb
    split at e
    · rename_i hz
      obtain ⟨c, ec, rfl⟩ := Option.map_eq_some_iff.mp e
      exact ix_str ve se pins st σ H _ _ v u Q I rx ry ⟨_, _, c, rfl, rfl, hz, ec, q.now s (by simp only [VR])⟩ hs
    · cases e
  · split at e
    · rename_i ks xs ed
      obtain ⟨k', ek, el⟩ := Option.bind_eq_some_iff.mp e
      obtain ⟨p, kvs, rfl, h1, h2, h3⟩ := dct_of s ra ed
      obtain ⟨w, e1, e2⟩ := look_kv h2 h3 el
      obtain rfl : v = Value.ref p := rx
      have hy : y = kV k' := by
        cases b <;> simp only [Vl.key] at ek <;> cases ek <;> (simp only [VR] at rb; subst rb; rfl)
      subst hy
      have gd : DGet H p (kV k') (some w) := by rw [← e1]; exact dgR h1
      exact tail_any (dict_typeIs I gd) slot_dict_getitem.lookup (d_getItem g.u1 I gd ry fun w' s' I' r' => ⟨w, H, I', r', q.now s e2⟩) hs
    · split at e
      · rename_i i ys _ es _
        obtain ⟨p, vs, rfl, h1, h2⟩ := seq_of s ra es
        simp only [VR] at rb; subst rb
        obtain ⟨w, e1, e2⟩ := h2.atI e
        rcases h1 with h1 | h1
        · exact ix_list ve se pins st σ H _ _ v u Q I rx ry ⟨p, vs, _, w, rfl, rfl, by rw [g.K]; exact h1, e1, q.now s e2⟩ hs
        · exact ix_tup ve se pins st σ H _ _ v u Q I rx ry ⟨p, vs, _, w, rfl, rfl, by rw [g.K]; exact h1, e1, q.now s e2⟩ hs
      · cases e
end

section
variable {G : Glb} {k : Nat} {X : Cx} {M : Mach} {W : WX} {a b c : Expr} {ca cb cc : E} {pos : Pos}
theorem pe_idxi (g : Good G k X) (ha : PE X a (tE G M W ca)) (hb : PE X b (tE G M W cb)) (hs : PlainIx b) : PE X (.Subscript a b pos) (tE G M W (.idx ca cb)) :=
  (pe_ix (ix_any g) ha hb hs).imp fun σ H Q ⟨ρ, η, S, s, r, h⟩ => ⟨ρ, η, S, s, r, (PR.bind h).mono fun ρ1 H1 x S1 st1 s1 h1 v hv => ⟨ρ1, η, S1, s1, r.step st1, (PR.bind h1).mono fun ρ2 H2 y S2 st2 s2 h2 w hw => by
    obtain ⟨z, e, h3⟩ := PR.ofO h2
    exact ⟨ρ2, S2, x, y, z, s2, hv.step st2, hw, e, h3⟩⟩⟩
/-- parts of slices -/
def tO (G : Glb) (M : Mach) (W : WX) (c : Oe) : TO := fun σ H Q => ∃ ρ η S, Sim G ρ H S ∧ ER G ρ H η σ ∧ PR G W σ ρ H (evo M c η S) (fun _ H' o _ => Q o H')
theorem _root_.L2.PO.imp {X : Cx} {e : Option Expr} {t t' : TO} (h : PO X e t) (k : ∀ σ H Q, t' σ H Q → t σ H Q) : PO X e t' := ⟨fun pins s σ H Q I q => h.run pins s σ H Q I (k σ H Q q)⟩
theorem po_nonei : PO X none (tO G M W .none) := po_none.imp fun σ H Q ⟨ρ, η, S, s, r, h⟩ => PR.here h s
theorem po_somei (h : PE X a (tE G M W ca)) : PO X (some a) (tO G M W (.some ca)) :=
  (po_some h).imp fun σ H Q ⟨ρ, η, S, s, r, h⟩ => ⟨ρ, η, S, s, r, (PR.bind h).mono fun ρ1 H1 x S1 st1 s1 h1 v hv => by
    cases x with
    | int i => simp only [VR] at hv; subst hv; exact ⟨i, rfl, PR.here h1 s1⟩
    | _ => exact h1.elim⟩
theorem VRs.cut {ρ : List Addr} {H : Hp} {xs : List Vl} {vs : List V} (lo hi : Option Int) (h : VRs G ρ H xs vs) : VRs G ρ H (cutG xs lo hi) (cutV vs lo hi) := by
  unfold cutG cutV
  rw [← h.length]
  exact (h.drop _).take _
def rSlt (G : Glb) : V → Option Int → Option Int → Hp → VK → Prop := fun x lo hi H Q => ∃ ρ S a z, Sim G ρ H S ∧ VR G ρ H a x ∧ sltop a lo hi = some z ∧ rFin G ρ H S z Q
theorem sl_any (g : Good G k X) : SlR X (rSlt G) := by
  intro pins st σ H x v vl vu lo hi sl Q I rx hs pl pu h
  obtain ⟨ρ, S, a, z, s, ra, e, q⟩ := h
  unfold sltop at e
  split at e
  · simp only [VR] at ra; subst ra
    split at e
    · rename_i hz
      cases e
      exact sl_str pins st σ H _ v vl vu lo hi sl Q I rx hs pl pu ⟨_, rfl, hz, q.now s (by simp only [VR])⟩
    · cases e
  · split at e
    · cases e
    · rename_i xs hw
      cases e
      simp only [VR] at ra
      obtain ⟨p, vs, rfl, h1, h2⟩ := ra
      exact sl_tup pins st σ H _ v vl vu lo hi sl Q I rx hs pl pu ⟨p, vs, rfl, by rw [g.K]; exact h1.sq, by rw [← h2.length]; exact hw, fun p' hp => q.tup s (h2.cut lo hi) hp⟩
  · cases e
theorem pe_slti (g : Good G k X) {lo hi : Option Expr} {cl ch : Oe} {p2 : Pos} (ha : PE X a (tE G M W ca)) (hl : PO X lo (tO G M W cl)) (hh : PO X hi (tO G M W ch)) : PE X (.Subscript a (.Slice lo hi none p2) pos) (tE G M W (.slt ca cl ch)) :=
  (pe_slice (sl_any g) ha hl hh).imp fun σ H Q ⟨ρ, η, S, s, r, h⟩ => ⟨ρ, η, S, s, r, (PR.bind h).mono fun ρ1 H1 x S1 st1 s1 h1 v hv => ⟨ρ1, η, S1, s1, r.step st1, (PR.bind h1).mono fun ρ2 H2 l S2 st2 s2 h2 => ⟨ρ2, η, S2, s2, (r.step st1).step st2, (PR.bind h2).mono fun ρ3 H3 u S3 st3 s3 h3 => by
    obtain ⟨z, e, h4⟩ := PR.ofO h3
    exact ⟨ρ3, S3, x, z, s3, (hv.step st2).step st3, e, h4⟩⟩⟩⟩

/-! ### a dict of the module -/
structure KdOk (G : Glb) (w : World) (d : Addr) (kv : List (Str × Vl)) : Prop where
  it : ∃ (es : Array DictEntry) (n : Nat), KDict G.K w d es n ∧ Paired (fun (e : DictEntry) (p : Str × Vl) => (∃ t, e.key = .str p.1 t) ∧ ∃ v, RelV v e.val ∧ ∀ ρ H, VR G ρ H p.2 v) es.toList kv
theorem kd_find {G : Glb} {z : Str} : ∀ {es : List DictEntry} {kv : List (Str × Vl)}, Paired (fun (e : DictEntry) (p : Str × Vl) => (∃ t, e.key = .str p.1 t) ∧ ∃ v, RelV v e.val ∧ ∀ ρ H, VR G ρ H p.2 v) es kv →
    (es.any (·.refKey)) = false ∧ ((kv.lookup z = none ∧ es.find? (·.key.isStr z) = none) ∨ ∃ e x v, es.find? (·.key.isStr z) = some e ∧ kv.lookup z = some x ∧ RelV v e.val ∧ ∀ ρ H, VR G ρ H x v)
  | _, _, .nil => ⟨rfl, .inl ⟨rfl, rfl⟩⟩
  | e :: es, (y, x) :: kv, .cons ⟨⟨t, e1⟩, v, e2, e3⟩ r => by
    obtain ⟨i1, i2⟩ := kd_find (z := z) r
    refine ⟨?_, ?_⟩
    · rw [List.any_cons, i1]
      have : e.refKey = false := by
        unfold DictEntry.refKey
        rw [e1]
      rw [this]; rfl
    · have hk : e.key.isStr z = (y == z) := by rw [e1]; rfl
      rw [List.find?_cons, hk, List.lookup_cons]
      by_cases q : y = z
      · subst q
        simp only [beq_self_eq_true]
        exact .inr ⟨e, x, v, rfl, rfl, e2, e3⟩
      · have q1 : (y == z) = false := beq_eq_false_iff_ne.mpr q
        have q2 : (z == y) = false := beq_eq_false_iff_ne.mpr (Ne.symm q)
        rw [q1, q2]
        exact i2
theorem KdOk.look {w : World} {d : Addr} {kv : List (Str × Vl)} (h : KdOk G w d kv) (z : Str) : ∃ es n, KDict G.K w d es n ∧ ((kv.lookup z = none ∧ PySem.W.nsIn G.K d z = some none) ∨ ∃ x v u, kv.lookup z = some x ∧ PySem.W.nsIn G.K d z = some (some u) ∧ RelV v u ∧ ∀ ρ H, VR G ρ H x v) := by
  obtain ⟨es, n, D, P⟩ := h.it
  refine ⟨es, n, D, ?_⟩
  obtain ⟨i1, i2⟩ := kd_find (z := z) P
  unfold PySem.W.nsIn
  rw [D.at_]
  rcases i2 with ⟨e1, e2⟩ | ⟨e, x, v, e1, e2, e3, e4⟩
  · refine .inl ⟨e1, ?_⟩
    show (match es.toList.find? (·.key.isStr z) with | some e => some (some e.val) | none => if es.toList.any (·.refKey) then none else some none) = some none
    rw [e2, i1]; rfl
  · refine .inr ⟨x, v, e.val, e2, ?_, e3, e4⟩
    show (match es.toList.find? (·.key.isStr z) with | some e => some (some e.val) | none => if es.toList.any (·.refKey) then none else some none) = some (some e.val)
    rw [e1]
theorem pe_kini (g : Good G k X) {x : Str} {d : Addr} {kv : List (Str × Vl)} (hk : KdOk G X.w d kv) (hM : M.kd x = some kv) {p2 : Pos} (hb : PE X (.Name x p2) (tC (.ref d))) (ha : PE X a (tE G M W ca)) (hm : behindInMarks .In (.Name x p2) = false) : PE X (.Compare a [.In] [.Name x p2] pos) (tE G M W (.kin x false ca)) := by
  obtain ⟨es, n, D, _⟩ := hk.look ""
  rw [← g.K] at D
  refine (pe_cmpR (op_in_kd D) ha hb hm).imp fun σ H Q ⟨ρ, η, S, s, r, h⟩ => ⟨ρ, η, S, s, r, (PR.bind h).mono fun ρ1 H1 y S1 st1 s1 h1 v hv => ?_⟩
  rw [hM] at h1
  cases y with
  | str z =>
    simp only [VR] at hv; subst hv
    have h2 := PR.here h1 s1
    obtain ⟨es', n', D', q⟩ := hk.look z
    rcases q with ⟨e1, e2⟩ | ⟨x', v', u, e1, e2, e3, e4⟩
    · exact ⟨z, none, rfl, rfl, by rw [g.K]; exact e2, h2 _ (by simp only [VR]; rw [e1]; rfl)⟩
    · exact ⟨z, some u, rfl, rfl, by rw [g.K]; exact e2, h2 _ (by simp only [VR]; rw [e1]; rfl)⟩
  | _ => exact h1.elim
theorem pe_knini (g : Good G k X) {x : Str} {d : Addr} {kv : List (Str × Vl)} (hk : KdOk G X.w d kv) (hM : M.kd x = some kv) {p2 : Pos} (hb : PE X (.Name x p2) (tC (.ref d))) (ha : PE X a (tE G M W ca)) (hm : behindInMarks .NotIn (.Name x p2) = false) : PE X (.Compare a [.NotIn] [.Name x p2] pos) (tE G M W (.kin x true ca)) := by
  obtain ⟨es, n, D, _⟩ := hk.look ""
  rw [← g.K] at D
  refine (pe_cmpR (op_notIn_kd D) ha hb hm).imp fun σ H Q ⟨ρ, η, S, s, r, h⟩ => ⟨ρ, η, S, s, r, (PR.bind h).mono fun ρ1 H1 y S1 st1 s1 h1 v hv => ?_⟩
  rw [hM] at h1
  cases y with
  | str z =>
    simp only [VR] at hv; subst hv
    have h2 := PR.here h1 s1
    obtain ⟨es', n', D', q⟩ := hk.look z
    rcases q with ⟨e1, e2⟩ | ⟨x', v', u, e1, e2, e3, e4⟩
    · exact ⟨z, none, rfl, rfl, by rw [g.K]; exact e2, h2 _ (by simp only [VR]; rw [e1]; rfl)⟩
    · exact ⟨z, some u, rfl, rfl, by rw [g.K]; exact e2, h2 _ (by simp only [VR]; rw [e1]; rfl)⟩
  | _ => exact h1.elim
theorem pe_kgeti (g : Good G k X) {x : Str} {d : Addr} {kv : List (Str × Vl)} (hk : KdOk G X.w d kv) (hM : M.kd x = some kv) {p2 : Pos} (hb : PE X (.Name x p2) (tC (.ref d))) (ha : PE X a (tE G M W ca)) (hs : PlainIx a) : PE X (.Subscript (.Name x p2) a pos) (tE G M W (.kget x ca)) :=
  (pe_ix ix_kdict hb ha hs).imp fun σ H Q ⟨ρ, η, S, s, r, h⟩ => ⟨ρ, η, S, s, r, (PR.bind h).mono fun ρ1 H1 y S1 st1 s1 h1 v hv => by
    rw [hM] at h1
    cases y with
    | str z =>
      simp only [VR] at hv; subst hv
      obtain ⟨x', e, h2⟩ := PR.ofO h1
      obtain ⟨es', n', D', q⟩ := hk.look z
      rcases q with ⟨e1, e2⟩ | ⟨x2, v', u, e1, e2, e3, e4⟩
      · rw [e1] at e; cases e
      · rw [e1] at e; cases e
        exact ⟨d, z, v', rfl, rfl, ⟨es', n', u, by rw [g.K]; exact D'.at_, D'.lit, by rw [g.K]; exact e2, e3⟩, PR.here h2 s1 v' (e4 _ _)⟩
    | _ => exact h1.elim⟩

/-! ### new things -/
theorem OR.inl {ρ : List Addr} {H : Hp} {o : Ob} {p : Addr} (h : OR G ρ H p o) (n : p ∉ ρ) : VR G ρ H o.inl (.ref p) := by
  cases o with
  | lst xs => obtain ⟨vs, h1, h2⟩ := h; show VR G ρ H (.lst xs) _; simp only [VR]; exact ⟨p, vs, rfl, ⟨.inl h1, n⟩, h2⟩
  | dct ks xs => obtain ⟨kvs, h1, h2, h3⟩ := h; show VR G ρ H (.dct ks xs) _; simp only [VR]; exact ⟨p, kvs, rfl, .inl h1, n, h2, h3⟩
  | ins c ns xs => obtain ⟨dx, fs, h1, h2, h3⟩ := h; show VR G ρ H (.obj c ns xs) _; simp only [VR]; exact ⟨p, dx, fs, rfl, h1, n, h2, h3⟩
theorem pe_inli {f : F} (h : PE X a (tF G M W f)) : PE X a (tE G M W (.inl f)) :=
  h.imp fun σ H Q ⟨ρ, η, S, s, r, h⟩ => ⟨ρ, η, S, s, r, (PR.bind h).mono fun ρ1 H1 o S1 st1 s1 h1 p hp n ho _ => (PR.here h1 s1) _ (ho.inl n)⟩
theorem Step.one {ρ ρ1 : List Addr} {H H1 : Hp} (st : Step ρ H ρ1 H1) {p : Addr} (hp : H p = none) : Step ρ H (ρ1 ++ [p]) H1 :=
  ⟨st.pre.trans (List.prefix_append _ _), st.keep, fun a ha => by
    rcases List.mem_append.mp ha with ha | ha
    · exact st.new a ha
    · obtain rfl : a = p := by simpa using ha
      exact .inr hp⟩
theorem pe_alci {f : F} (h : PE X a (tF G M W f)) : PE X a (tE G M W (.alc f)) :=
  h.imp fun σ H Q ⟨ρ, η, S, s, r, h⟩ => ⟨ρ, η, S, s, r, by
    have h0 : PR G W σ ρ H ((evf M f η S).bind fun o S1 => .ok (.ref S1.length) (S1 ++ [o])) (okV G Q) := h
    cases e : evf M f η S with
    | ok o S1 =>
      rw [e] at h0
      exact fun ρ1 H1 st1 s1 p hp n ho sx => h0 (ρ1 ++ [p]) H1 (st1.one hp) sx _ (by simp only [VR]; exact ⟨p, rfl, by rw [← s1.len]; simp⟩)
    | exc x S1 => rw [e] at h0; exact h0
    | bad => rw [e] at h0; exact h0⟩
/-- a new thing is laid -/
theorem none_of {ρ ρ1 : List Addr} {H H1 : Hp} {S S1 : Hs} (s : Sim G ρ H S) (s1 : Sim G ρ1 H1 S1) (st : Step ρ H ρ1 H1) {p : Addr} (hp : H1 p = none) : H p = none := by
  cases q : H p with
  | none => rfl
  | some o =>
    by_cases n : p ∈ ρ
    · exact absurd (st.pre.subset n) (s1.free hp)
    · rw [st.keep p o q n] at hp; cases hp
theorem okF_new {ρ : List Addr} {H H0 : Hp} {S S0 : Hs} {σ : L2.St} {W' : WX} {o : Ob} {Q : VK} {u : HO} {p : Addr} {ρ0 : List Addr} (s0 : Sim G ρ0 H0 S0) (st0 : Step ρ0 H0 ρ H) (s : Sim G ρ H S) (h : PR G W' σ ρ H (.ok o S) (okF G H0 Q)) (hp : H p = none)
    (ho : ∀ ρ', Step ρ H ρ' (upd H p u) → OR G ρ' (upd H p u) p o) : Q (.ref p) (upd H p u) := by
  have sm : Same H (upd H p u) := same_new hp
  have n : p ∉ ρ := s.free hp
  have st1 : Step ρ H (ρ ++ [p]) (upd H p u) := (stepSame sm).one hp
  refine h ρ _ (stepSame sm) (s.same sm) p (none_of s0 s st0 hp) n (ho ρ (stepSame sm)) ⟨by simp [s.len], ?_, fun r o' a h1 h2 => ?_⟩
  · rw [List.nodup_append]
    exact ⟨s.nd, by simp, fun x hx y hy => by
      have : y = p := by simpa using hy
      subst this
      exact fun e => n (e ▸ hx)⟩
  · by_cases hr : r < S.length
    · rw [List.getElem?_append_left hr] at h1
      rw [List.getElem?_append_left (by rw [s.len]; exact hr)] at h2
      exact (s.at_ r o' a h1 h2).same st1 sm
    · have hr2 : r = S.length := by
        have := (List.getElem?_eq_some_iff.mp h1).1
        simp at this
        omega
      subst hr2
      have e1 : o' = o := by simpa using h1.symm
      have e2 : a = p := by rw [← s.len] at h2; simpa using h2.symm
      subst e1 e2
      exact ho _ st1
end
end Oz
set_option Elab.async false
set_option linter.all false
set_option maxRecDepth 100000
set_option maxHeartbeats 4000000
set_option autoImplicit false
/-! Oz: lists, tuples, texts made; what is walked. -/
namespace Oz
open PySem L2 PyProof.Rows

section
variable {G : Glb} {k : Nat} {X : Cx} {M : Mach} {W : WX} {a b c : Expr} {ca cb cc : E} {pos : Pos}
theorem pf_lst {es : List Expr} {ces : Es} (h : PA X es (tA G M W ces)) : PE X (.List es pos) (tF G M W (.lst ces)) :=
  (pe_lst h).imp fun σ H Q ⟨ρ, η, S, s, r, h⟩ => ⟨ρ, η, S, s, r, (PR.bind h).mono fun ρ1 H1 xs S1 st1 s1 h1 vs hvs => by
    split at h1
    · rename_i hz
      exact ⟨by rw [← hvs.length]; exact hz, fun p hp => okF_new s st1 s1 h1 hp fun ρ' st' => ⟨vs, upd_same, VRs.step st' _ _ hvs⟩⟩
    · exact h1.elim⟩
/-- list + list, whatever holds them -/
theorem op_catL : OpR X (binaryOp .Add) (fun x y H Q => ∃ l b xs zs, x = .ref l ∧ y = .ref b ∧ Rd H l (.lst xs) ∧ Rd H b (.lst zs) ∧ xs.length + zs.length ≤ sizeLine ∧ ∀ p, H p = none → Q (.ref p) (upd H p (.lst (xs ++ zs)))) := by
  intro pins s σ H x y v u Q I rx ry ⟨l, b, xs, zs, ex, ey, h1, h2, hz, q⟩
  subst ex ey
  cases rx
  cases ry
  obtain ⟨_, its, n, r, e⟩ := h1.ok I.hok
  obtain ⟨_, its2, n2, r2, e2⟩ := h2.ok I.hok
  have l1 := r.length
  have l2 := r2.length
  refine PySem.P.add_list e e2 ?_ (by simp only [List.size_toArray]; omega)
  rw [show its.toArray ++ its2.toArray = (its ++ its2).toArray by simp]
  exact ⟨.ref _, _, I.lnew (t' := s.toks) (r.append r2) (by simp only [List.length_append]; omega), rfl, q _ I.fresh⟩
theorem pf_cat (ha : PE X a (tE G M W ca)) (hb : PE X b (tE G M W cb)) : PE X (.BinOp a .Add b pos) (tF G M W (.cat ca cb)) :=
  (pe_op op_catL ha hb).imp fun σ H Q ⟨ρ, η, S, s, r, h⟩ => ⟨ρ, η, S, s, r, (PR.bind h).mono fun ρ1 H1 x S1 st1 s1 h1 v hv => ⟨ρ1, η, S1, s1, r.step st1, (PR.bind h1).mono fun ρ2 H2 y S2 st2 s2 h2 w hw => by
    split at h2
    · rename_i xs ys e1 e2
      split at h2
      · rename_i hz
        obtain ⟨p, vs, rfl, g1, g2⟩ := lst_of s2 (hv.step st2) e1
        obtain ⟨p', ws, rfl, g3, g4⟩ := lst_of s2 hw e2
        exact ⟨p, p', vs, ws, rfl, rfl, g1, g3, by rw [← g2.length, ← g4.length]; exact hz, fun q hq => okF_new s (st1.trans st2) s2 h2 hq fun ρ' st' => ⟨_, upd_same, VRs.step st' _ _ (g2.append g4)⟩⟩
      · exact h2.elim
    · exact h2.elim⟩⟩
theorem pf_slc (g : Good G k X) {lo hi : Option Expr} {cl ch : Oe} {p2 : Pos} (ha : PE X a (tE G M W ca)) (hl : PO X lo (tO G M W cl)) (hh : PO X hi (tO G M W ch)) : PE X (.Subscript a (.Slice lo hi none p2) pos) (tF G M W (.slc ca cl ch)) :=
  (pe_slice sl_list ha hl hh).imp fun σ H Q ⟨ρ, η, S, s, r, h⟩ => ⟨ρ, η, S, s, r, (PR.bind h).mono fun ρ1 H1 x S1 st1 s1 h1 v hv => ⟨ρ1, η, S1, s1, r.step st1, (PR.bind h1).mono fun ρ2 H2 l S2 st2 s2 h2 => ⟨ρ2, η, S2, s2, (r.step st1).step st2, (PR.bind h2).mono fun ρ3 H3 u S3 st3 s3 h3 => by
    split at h3
    · rename_i xs e
      obtain ⟨p, vs, rfl, g1, g2⟩ := lst_of s3 ((hv.step st2).step st3) e
      exact ⟨p, vs, rfl, .inl g1, fun q hq => okF_new s ((st1.trans st2).trans st3) s3 h3 hq fun ρ' st' => ⟨_, upd_same, VRs.step st' _ _ (g2.cut _ _)⟩⟩
    · exact h3.elim⟩⟩⟩
/-- one argument -/
theorem pa_one1 (ha : PE X a (tE G M W ca)) (hs : starEach [a] X.env = [(false, eval a X.env)]) : PA X [a] (tCons (tE G M W ca) tNil) := pa_cons ha pa_nil (by rw [hs]; rfl)
/-- list(x) -/
theorem pf_cpy (g : Good G k X) {p : Pos} (hg : Gl X "list") (hm : X.mg "list" = none) (ha : PE X a (tE G M W ca)) (hs : starEach [a] X.env = [(false, eval a X.env)]) : PE X (.Call (.Name "list" p) [a] [] pos) (tF G M W (.cpy ca)) :=
  (pe_callTy call_list_of hg hm (by decide +kernel) (pa_one1 ha hs) (by decide) (by decide) (by rw [hs]; rfl) rfl).imp fun σ H Q ⟨ρ, η, S, s, r, h⟩ => ⟨ρ, η, S, s, r, (PR.bind h).mono fun ρ1 H1 x S1 st1 s1 h1 v hv => by
    split at h1
    · rename_i xs e
      obtain ⟨p, vs, rfl, g1, g2⟩ := seq_of s1 hv e
      exact ⟨p, vs, rfl, by rw [g.K]; exact g1, fun q hq => okF_new s st1 s1 h1 hq fun ρ' st' => ⟨_, upd_same, VRs.step st' _ _ g2⟩⟩
    · exact h1.elim⟩
/-! ### built-ins of one argument -/
def rB1 (G : Glb) (f : B1) : List V → Hp → VK → Prop := fun xs H Q => ∃ ρ S a z x, xs = [x] ∧ Sim G ρ H S ∧ VR G ρ H a x ∧ b1op f S a = some z ∧ rFin G ρ H S z Q
def B1.fv : B1 → Value
  | .len => .builtin "len" | .all => .builtin "all" | .any => .builtin "any" | .repr => .builtin "repr" | .sum => .builtin "sum"
  | .tuple => .type "tuple" | .str => .type "str" | .int => .type "int"
theorem repr_reads (g : Good G k X) {pins : List (Addr × Obj)} {s : Shared} {σ : L2.St} {H : Hp} {x : V} {u : Value} {d : PyData} {Q : VK} (I : Inv X pins σ H s) (r : RelV x u) (h : Dp X.K H x d) (h1 : d.showable = true) (h2 : d.shown.length ≤ sizeLine) (h3 : d.canLay0 = true) (h4 : d.depth ≤ 60) (q : Q (.str d.shown) H) :
    wpAny (model X.prog X.w) X.A (call (.builtin "repr") [u]) (EP X pins σ Q) X.xe s := by
  obtain ⟨as, rd⟩ := Dp.reads I d x u h r
  have hd : d.hasDict = true → sysModules ∉ as := fun z => by rw [PySem.PyData.hasDict_of_canLay d h3] at z; cases z
  have hu := g.u64
  have fin : ∀ (h' : Heap) (w' : Tok) (tk : Nat), (∀ b o, s.heap.get? b = some o → h'.get? b = some o) → EP X pins σ Q (.str d.shown w') { s with heap := h', toks := tk } := fun h' w' tk kp => ⟨.str d.shown, H, I.kept kp, ⟨w', rfl⟩, q⟩
  cases d with
  | none => cases rd; exact PySem.P.repr_of_none (by have := fin s.heap s.toks (s.toks + 1) fun _ _ e => e; simpa only [PyData.shown] using this)
  | bool b => cases rd; exact PySem.P.repr_of_bool (by have := fin s.heap s.toks (s.toks + 1) fun _ _ e => e; simpa only [PyData.shown] using this)
  | int i => cases rd; exact PySem.P.repr_of_int (by simpa [PyData.showable] using h1) (by have := fin s.heap s.toks (s.toks + 1) fun _ _ e => e; simpa only [PyData.shown] using this)
  | str i => cases rd; exact PySem.P.repr_of_str (by have := fin s.heap s.toks (s.toks + 1) fun _ _ e => e; simpa only [PyData.shown] using this) (by simpa only [PyData.shown] using h2)
  | list xs =>
    obtain ⟨a, ea⟩ : ∃ a, u = .ref a := by cases rd; exact ⟨_, rfl⟩
    subst ea
    exact PySem.repr_of_reads' rd h1 hd g.grd (by omega) (fun _ _ e => e) (fun h' w' tk kp => fin h' w' tk kp) h2
  | tuple xs =>
    obtain ⟨a, ea⟩ : ∃ a, u = .ref a := by cases rd; exact ⟨_, rfl⟩
    subst ea
    exact PySem.repr_of_reads' rd h1 hd g.grd (by omega) (fun _ _ e => e) (fun h' w' tk kp => fin h' w' tk kp) h2
  | dict xs => simp [PySem.PyData.canLay0] at h3
theorem cr_b1 (g : Good G k X) (f : B1) : CallR X f.fv (rB1 G f) := by
  intro pins st σ H xs us Q I r h
  obtain ⟨ρ, S, a, z, x, rfl, s, ra, e, q⟩ := h
  cases f with
  | len =>
    simp only [b1op] at e
    split at e
    · simp only [VR] at ra; subst ra
      split at e
      · rename_i hz
        cases e
        exact call_len_str pins st σ H _ us Q I r ⟨_, rfl, hz, q.now s (by simp only [VR])⟩
      · cases e
    · split at e
      · rename_i ks xs ed
        cases e
        obtain ⟨p, kvs, rfl, h1, h2, h3⟩ := dct_of s ra ed
        obtain ⟨u, rfl, ru⟩ := vals1 r
        obtain rfl : u = Value.ref p := ru
        refine d_len I h1 fun t s' I' => ⟨.int _, H, I', ⟨t, rfl⟩, q.now s ?_⟩
        rw [← h2]; simp only [VR, List.length_map]
      · obtain ⟨ys, es, rfl⟩ := Option.map_eq_some_iff.mp e
        obtain ⟨p, vs, rfl, h1, h2⟩ := seq_of s ra es
        exact call_len_seq pins st σ H _ us Q I r ⟨p, vs, rfl, by rw [g.K]; exact h1, q.now s (by simp only [VR, h2.length])⟩
  | all =>
    obtain ⟨bs, eb, rfl⟩ := Option.map_eq_some_iff.mp (show ((lstOf S a).bind allB).map _ = some z from e)
    obtain ⟨ys, e1, e2⟩ := Option.bind_eq_some_iff.mp eb
    obtain ⟨p, vs, rfl, h1, h2⟩ := lst_of s ra e1
    exact cr_all g.calm pins st σ H _ us Q I r ⟨p, bs, rfl, by rw [← h2.bls e2]; exact .inl h1, q.now s (by simp only [VR])⟩
  | any =>
    obtain ⟨bs, eb, rfl⟩ := Option.map_eq_some_iff.mp (show ((lstOf S a).bind allB).map _ = some z from e)
    obtain ⟨ys, e1, e2⟩ := Option.bind_eq_some_iff.mp eb
    obtain ⟨p, vs, rfl, h1, h2⟩ := lst_of s ra e1
    exact cr_any g.calm pins st σ H _ us Q I r ⟨p, bs, rfl, by rw [← h2.bls e2]; exact .inl h1, q.now s (by simp only [VR])⟩
  | sum =>
    obtain ⟨bs, eb, rfl⟩ := Option.map_eq_some_iff.mp (show ((lstOf S a).bind allI).map _ = some z from e)
    obtain ⟨ys, e1, e2⟩ := Option.bind_eq_some_iff.mp eb
    obtain ⟨p, vs, rfl, h1, h2⟩ := lst_of s ra e1
    exact cr_sum g.calm pins st σ H _ us Q I r ⟨p, bs, rfl, by rw [← h2.ints e2]; exact .inl h1, q.now s (by simp only [VR])⟩
  | tuple =>
    obtain ⟨ys, es, rfl⟩ := Option.map_eq_some_iff.mp (show (seqOf S a).map _ = some z from e)
    obtain ⟨p, vs, rfl, h1, h2⟩ := seq_of s ra es
    rcases h1 with h1 | h1
    · exact call_tuple_of pins st σ H _ us Q I r ⟨p, vs, rfl, .inl ⟨by rw [g.K]; exact h1, fun l hl => q.tup s h2 hl⟩⟩
    · cases a with
      | tup zs =>
        simp only [seqOf, Option.some.injEq] at es; subst es
        exact call_tuple_of pins st σ H _ us Q I r ⟨p, vs, rfl, .inr ⟨by rw [g.K]; exact h1, q.now s ra⟩⟩
      | lst zs =>
        simp only [VR] at ra
        obtain ⟨p', vs', e1, h3, h4⟩ := ra
        cases e1
        simp only [seqOf, Option.some.injEq] at es; subst es
        exact call_tuple_of pins st σ H _ us Q I r ⟨p, vs', rfl, .inl ⟨h3.sq, fun l hl => q.tup s h4 hl⟩⟩
      | ref r' =>
        simp only [seqOf] at es
        split at es
        · rename_i zs eo
          cases es
          obtain ⟨p', e1, _, vs', h3, h4⟩ := s.ref ra eo
          cases e1
          exact call_tuple_of pins st σ H _ us Q I r ⟨p, vs', rfl, .inl ⟨SqL.of h3, fun l hl => q.tup s h4 hl⟩⟩
        · cases es
      | _ => simp only [seqOf] at es; cases es
  | repr =>
    simp only [b1op] at e
    split at e
    · rename_i d ed
      split at e
      · rename_i hz
        cases e
        obtain ⟨u, rfl, ru⟩ := vals1 r
        exact repr_reads g I ru (by rw [g.K]; exact dp_of s ra ed) hz.1 hz.2.1 hz.2.2.1 hz.2.2.2 (q.now s (by simp only [VR]))
      · cases e
    · cases e
  | str =>
    simp only [b1op] at e
    split at e
    · simp only [VR] at ra; subst ra
      split at e
      · rename_i hz
        cases e
        exact call_str_int pins st σ H _ us Q I r ⟨_, rfl, hz, q.now s (by simp only [VR])⟩
      · cases e
    · simp only [VR] at ra; subst ra
      cases e
      exact SkE.call_str_str pins st σ H _ us Q I r ⟨_, rfl, q.now s (by simp only [VR])⟩
    · cases e
  | int =>
    simp only [b1op] at e
    split at e
    · simp only [VR] at ra; subst ra
      cases e
      exact call_int1 pins st σ H _ us Q I r (.inr ⟨_, rfl, q.now s (by simp only [VR])⟩)
    · simp only [VR] at ra; subst ra
      cases e
      exact call_int1 pins st σ H _ us Q I r (.inl ⟨_, rfl, q.now s (by simp only [VR])⟩)
    · cases e
end
end Oz
set_option Elab.async false
set_option linter.all false
set_option maxRecDepth 100000
set_option maxHeartbeats 4000000
set_option autoImplicit false
/-! Oz: calls of the program's own defs, methods and classes. -/
namespace Oz
open PySem L2 PyProof.Rows

/-- a def keeps a promise where no repr is under way -/
structure FnG (P : Program) (w : World) (K : PySem.W.Frag) (mg : Str → Option Value) (base : Heap) (k : Nat) (f : Addr) (fd : FuncData) (ps : List Str) (sp : Sp) : Prop where
  len : ∀ vs H Q E, sp vs H Q E → vs.length = ps.length
  run : ∀ (A : Around) (outer : List Env) (s : Shared) (H : Hp) (args : Args) (us : List Value) (vs : List V) (Q : VK) (E : XK), Room k A → A.guards = some [] → Env0 P w K mg base A outer s H → BindsTo s fd args (ps.zip us) → Vals vs us → sp vs H Q E →
    codeAny (model P w) A (.call (.ref f) args) (CR (L2.CX P w) outer P w H s Q E) s
theorem FnG.mono {P : Program} {w : World} {K : PySem.W.Frag} {mg : Str → Option Value} {base : Heap} {j k : Nat} {f : Addr} {fd : FuncData} {ps : List Str} {sp : Sp} (F : FnG P w K mg base j f fd ps sp) (h : j ≤ k) : FnG P w K mg base k f fd ps sp :=
  ⟨F.len, fun A outer s H args us vs Q E hr => F.run A outer s H args us vs Q E (hr.mono h)⟩

/-- what a call hands back -/
def okR (G : Glb) (H : Hp) (Q : VK) : List Addr → Hp → Rv → Hs → Prop := fun ρ' H' r S' => match r with
  | .val x => ∀ v, VR G ρ' H' x v → Q v H'
  | .frs o => ∀ p, H p = none → p ∉ ρ' → OR G ρ' H' p o → Sim G (ρ' ++ [p]) H' (S' ++ [o]) → Q (.ref p) H'
/-- the promise of the def that the machine calls q -/
def spI (G : Glb) (M : Mach) (n : Nat) (q : Str) : Sp := fun vs H Q E => vs.length = n ∧ ∃ ρ S xs, Sim G ρ H S ∧ VRs G ρ H xs vs ∧ PR G (fun cls d _ H' => E cls d H') [] ρ H (M.cal q xs S) (okR G H Q)

section
variable {G : Glb} {k n : Nat} {X : Cx} {M : Mach} {W : WX} {f C : Addr} {fd : FuncData} {ps : List Str} {sp : Sp} {dvs : List V} {ds : List Value} {q : Str}
theorem raised {pins : List (Addr × Obj)} {σ : L2.St} {H : Hp} {s s' : Shared} {e : Value} (tk : Takes X W) (I : Inv X pins σ H s) (h : L2.CX X.prog X.w X.stack H s (fun c d H' => W c d σ H') e s') : X.xe e s' :=
  tk e s' (XE.of_call I (fun _ _ _ h => h) h)
theorem run_g {pins : List (Addr × Obj)} {σ : L2.St} {H : Hp} {s : Shared} {Q : VK} {us : List Value} {vs : List V} (F : FnG X.prog X.w X.K X.mg X.base k f fd ps sp) (hr : Room k X.A) (hg : X.A.guards = some []) (hb : Binds X.K fd ps ds) (hd : Vals dvs ds) (tk : Takes X W)
    (I : Inv X pins σ H s) (r : Vals vs us) (h : sp (vs ++ dvs) H Q (fun c d H' => W c d σ H')) : wpAny (model X.prog X.w) X.A (call (.ref f) us) (EP X pins σ Q) X.xe s := by
  have rr := r.append hd
  have len : (us ++ ds).length = ps.length := rr.length.symm.trans (F.len _ _ _ _ h)
  refine wpAny_call (codeAny_mono (F.run X.A X.stack s H ⟨us, []⟩ (us ++ ds) (vs ++ dvs) Q _ hr hg I.env0 (hb s us I.kIn len) rr h) ?_)
  intro r' s' hq
  match r', hq with
  | .error e, hq => exact raised tk I hq
  | .ok (.ret u), hq => exact I.after hq
  | .ok .next, hq => exact hq.elim
  | .ok .brk, hq => exact hq.elim
  | .ok .cont, hq => exact hq.elim
theorem guards_make {A : Around} {us : List Value} {kw : List (Str × Value)} (h : A.guards = some []) : (A.under (.builtin "type.__call__" ⟨.ref C :: us, kw⟩)).guards = some [] := by
  have e : (Code.builtin "type.__call__" ⟨.ref C :: us, kw⟩).guards = [] := by
    unfold Code.guards
    rw [if_neg]
    intro z
    have z2 : guardIds.contains "type.__call__" = true := z
    exact absurd z2 (by decide +kernel)
  unfold Around.under
  simp only [e]
  rw [h]; rfl
/-- a class is called -/
theorem run_mk {pins : List (Addr × Obj)} {σ : L2.St} {H : Hp} {s : Shared} {Q : VK} {us : List Value} {vs : List V} (m : Mk X.K C f) (F : FnG X.prog X.w X.K X.mg X.base k f fd ps sp) (hr : Room (k + 1) X.A) (hg : X.A.guards = some []) (hb : Binds X.K fd ps ds) (hd : Vals dvs ds) (tk : Takes X W)
    (I : Inv X pins σ H s) (r : Vals vs us)
    (h : ∀ x dx, H x = none → H dx = none → dx ≠ x → sp (.ref x :: (vs ++ dvs)) (upd (upd H dx (.own x)) x (.ins C dx [])) (fun v H2 => v = .non ∧ Q (.ref x) H2) (fun c d H' => W c d σ H')) :
    wpAny (model X.prog X.w) X.A (call (.ref C) us) (EP X pins σ Q) X.xe s := by
  have q0 := h (s.heap.objs.size + 1) s.heap.objs.size (I.hok.fresh (Nat.le_succ _)) (I.hok.fresh (Nat.le_refl _)) (Nat.ne_of_lt (Nat.lt_succ_self _))
  have J := Inv.made (C := C) I
  have rr : Vals (V.ref (s.heap.objs.size + 1) :: (vs ++ dvs)) (Value.ref (s.heap.objs.size + 1) :: (us ++ ds)) := .cons rfl (r.append hd)
  have len : (Value.ref (s.heap.objs.size + 1) :: us ++ ds).length = ps.length := rr.length.symm.trans (F.len _ _ _ _ q0)
  refine wpAny_call (make_map (f := f) I.kIn m.makes m.init (beq_iff_eq.mp m.fn) (codeAny_mono (F.run _ X.stack _ _ ⟨Value.ref (s.heap.objs.size + 1) :: us, []⟩ (Value.ref (s.heap.objs.size + 1) :: (us ++ ds)) _ _ _ (hr.make C us []) (guards_make hg)
    (J.env0.make C us []) (hb _ (Value.ref (s.heap.objs.size + 1) :: us) J.kIn len) rr q0) ?_))
  intro r' s' hq
  match r', hq with
  | .error e, hq => exact raised (σ := σ) tk J hq
  | .ok (.ret u), hq =>
    obtain ⟨v, H', J3, rv, ev, q3⟩ := J.after hq
    subst ev
    exact ⟨rv, V.ref (s.heap.objs.size + 1), H', J3, rfl, q3⟩
  | .ok .next, hq => exact hq.elim
  | .ok .brk, hq => exact hq.elim
  | .ok .cont, hq => exact hq.elim
end

/-! ### f(..) -/
section
variable {G : Glb} {k n : Nat} {X : Cx} {M : Mach} {W : WX} {f C : Addr} {fd : FuncData} {ps : List Str} {ds : List Value} {q x m : Str} {a e : Expr} {es : List Expr} {ca : E} {ces : Es} {p pos apos : Pos}
/-- the values of written arguments, then constants -/
def Es.app : Es → List Vl → Es
  | .nil, [] => .nil
  | .nil, v :: vs => .cons (.cst v) (Es.app .nil vs)
  | .cons e es, vs => .cons e (Es.app es vs)
theorem evs_app : ∀ (es : Es) (vs : List Vl) (η : Sg) (S : Hs), evs M (es.app vs) η S = (evs M es η S).bind fun xs S1 => .ok (xs ++ vs) S1
  | .nil, [], _, _ => by simp only [Es.app, evs, Res.bind, List.append_nil]
  | .nil, v :: vs, η, S => by
    have h := evs_app .nil vs η S
    simp only [Es.app, evs, ev, Res.bind] at h ⊢
    rw [h]; rfl
  | .cons e es, vs, η, S => by
    simp only [Es.app, evs]
    cases ev M e η S with
    | ok x S1 =>
      simp only [Res.bind]
      rw [evs_app es vs η S1]
      cases evs M es η S1 <;> rfl
    | exc x S1 => rfl
    | bad => rfl
/-- constants: they lean on nothing -/
def Csts (G : Glb) (xs : List Vl) (dvs : List V) : Prop := ∀ ρ H, VRs G ρ H xs dvs
theorem PR.exc_sig {α : Type} {W : WX} {σ : L2.St} {ρ : List Addr} {H : Hp} {r : Res α} {ok : List Addr → Hp → α → Hs → Prop} (h : PR G W σ ρ H r ok) : PR G (fun cls d _ H' => W cls d σ H') [] ρ H r ok := by
  cases r with
  | ok a S => exact h
  | exc x S =>
    intro ρ' H' st s
    have := h ρ' H' st s
    unfold XW at this ⊢
    exact this
  | bad => exact h
/-- from a call's answer -/
theorem PR.callV {σ : L2.St} {ρ0 ρ : List Addr} {H0 H : Hp} {S0 S : Hs} {Q : VK} {xs : List Vl} (s0 : Sim G ρ0 H0 S0) (st : Step ρ0 H0 ρ H) (s : Sim G ρ H S) (h : PR G W σ ρ H (calV M q xs S) (okV G Q)) : PR G W σ ρ H (M.cal q xs S) (okR G H Q) := by
  have h' : PR G W σ ρ H ((M.cal q xs S).bind fun r S1 => .ok r.v S1) (okV G Q) := h
  cases e : M.cal q xs S with
  | ok r S1 =>
    rw [e] at h'
    intro ρ' H' st' s'
    cases r with
    | val x => exact h' ρ' H' st' s'
    | frs o => exact fun p _ n ho _ => h' ρ' H' st' s' _ (ho.inl n)
  | exc x S1 => rw [e] at h'; exact h'
  | bad => rw [e] at h'; exact h'
theorem PR.callF {σ : L2.St} {ρ0 ρ : List Addr} {H0 H : Hp} {S0 S : Hs} {Q : VK} {xs : List Vl} (s0 : Sim G ρ0 H0 S0) (st : Step ρ0 H0 ρ H) (s : Sim G ρ H S) (h : PR G W σ ρ H ((M.cal q xs S).bind fun r S2 => match r with | .frs o => .ok o S2 | .val _ => .bad) (okF G H0 Q)) : PR G W σ ρ H (M.cal q xs S) (okR G H Q) := by
  cases e : M.cal q xs S with
  | ok r S1 =>
    rw [e] at h
    cases r with
    | val x => exact h.elim
    | frs o => exact fun ρ' H' st' s' p hp n ho sx => h ρ' H' st' s' p (none_of s0 s st hp) n ho sx
  | exc x S1 => rw [e] at h; exact h
  | bad => rw [e] at h; exact h
/-- what stands for the written arguments -/
def tCl (X : Cx) (k n : Nat) (G : Glb) (M : Mach) (q : Str) (W : WX) (ces : Es) (dxs : List Vl) : TE := fun σ H Q => ∃ ρ η S, Sim G ρ H S ∧ ER G ρ H η σ ∧ PR G W σ ρ H (evs M ces η S) fun ρ1 H1 xs S1 => xs.length + dxs.length = n ∧ PR G W σ ρ1 H1 (M.cal q (xs ++ dxs) S1) (okR G H1 Q)
theorem pe_callE (g : Good G (k + 1) X) (F : FnG X.prog X.w X.K X.mg X.base k f fd ps (spI G M n q)) (hg : Gl X x) (hm : X.mg x = some (.ref f)) (hk : PySem.W.keepIn X.K (.ref f) = true) {dxs : List Vl} {dvs : List V} (hb : Binds X.K fd ps ds) (hd : Vals dvs ds) (hc : Csts G dxs dvs) (tk : Takes X W)
    (ha : PA X (e :: es) (tA G M W ces)) (hdb : (x == ("__debug__" : Str)) = false := by decide) (he : starEach (e :: es) X.env = (false, eval e X.env) :: starEach es X.env := by rfl) (hpl : (backTo pos (starEach es X.env)).any (·.1) = false := by rfl) :
    PE X (.Call (.Name x p) (e :: es) [] pos) (tCl X k n G M q W ces dxs) := by
  refine ⟨fun pins s σ H Q I ⟨ρ, η, S, s0, r, h⟩ => ?_⟩
  have hr : Room k X.A := g.room.mono (Nat.le_succ _)
  refine wpAny_Call_Name_kw (ld_glob I hg hm ?_ hdb)
  refine PySem.W.callWith_K (h₀ := X.base) I.ok.mod.kin hk (thn (ha.run pos pins s σ H (fun vs H1 => ∃ xs ρ1 S1, Step ρ H ρ1 H1 ∧ Sim G ρ1 H1 S1 ∧ VRs G ρ1 H1 xs vs ∧ xs.length + dxs.length = n ∧ PR G W σ ρ1 H1 (M.cal q (xs ++ dxs) S1) (okR G H1 Q)) I ⟨ρ, η, S, s0, r, h.mono fun ρ1 H1 xs S1 st1 s1 hl vs hv => ⟨xs, ρ1, S1, st1, s1, hv, hl⟩⟩) fun us s1 ⟨vs, H1, I1, rv, xs, ρ1, S1, st1, sm1, hv, hl, hp⟩ => ⟨I1.kIn, ?_⟩) he hpl
  refine run_g F hr g.grd hb hd tk I1 rv ⟨?_, ρ1, S1, xs ++ dxs, sm1, hv.append (hc _ _), PR.exc_sig hp⟩
  rw [List.length_append, ← hv.length, ← (hc ρ1 H1).length]; exact hl
theorem pe_call0 (g : Good G (k + 1) X) (F : FnG X.prog X.w X.K X.mg X.base k f fd ps (spI G M n q)) (hg : Gl X x) (hm : X.mg x = some (.ref f)) (hk : PySem.W.keepIn X.K (.ref f) = true) {dxs : List Vl} {dvs : List V} (hb : Binds X.K fd ps ds) (hd : Vals dvs ds) (hc : Csts G dxs dvs) (tk : Takes X W) (hdb : (x == ("__debug__" : Str)) = false := by decide) :
    PE X (.Call (.Name x p) [] [] pos) (tCl X k n G M q W .nil dxs) := by
  refine ⟨fun pins s σ H Q I ⟨ρ, η, S, s0, r, h⟩ => ?_⟩
  have hr : Room k X.A := g.room.mono (Nat.le_succ _)
  obtain ⟨hl, hp⟩ := h.here s0
  refine wpAny_Call_Name_kw (ld_glob I hg hm ?_ hdb)
  refine PySem.W.callWith_K0 I.kIn hk ?_
  refine run_g (us := []) (vs := []) F hr g.grd hb hd tk I .nil ⟨?_, ρ, S, dxs, s0, (hc _ _), PR.exc_sig hp⟩
  simp only [List.length_nil] at hl
  rw [List.nil_append, ← (hc ρ H).length]; omega
/-- the value of a call -/
theorem tCl_val {σ : L2.St} {H : Hp} {Q : VK} {dxs : List Vl} (hn : ∀ η S xs S1, evs M ces η S = .ok xs S1 → xs.length + dxs.length = n) (h : tE G M W (.call q (ces.app dxs)) σ H Q) : tCl X k n G M q W ces dxs σ H Q := by
  obtain ⟨ρ, η, S, s0, r, h⟩ := h
  refine ⟨ρ, η, S, s0, r, ?_⟩
  simp only [ev, evs_app] at h
  cases e : evs M ces η S with
  | ok xs S1 =>
    rw [e] at h
    exact fun ρ1 H1 st s => ⟨hn _ _ _ _ e, PR.callV s0 st s (PR.step h st)⟩
  | exc x S1 => rw [e] at h; exact h
  | bad => rw [e] at h; exact h
theorem tCl_frs {σ : L2.St} {H : Hp} {Q : VK} {dxs : List Vl} (hn : ∀ η S xs S1, evs M ces η S = .ok xs S1 → xs.length + dxs.length = n) (h : tF G M W (.call q (ces.app dxs)) σ H Q) : tCl X k n G M q W ces dxs σ H Q := by
  obtain ⟨ρ, η, S, s0, r, h⟩ := h
  refine ⟨ρ, η, S, s0, r, ?_⟩
  simp only [evf, evs_app] at h
  cases e : evs M ces η S with
  | ok xs S1 =>
    rw [e] at h
    refine fun ρ1 H1 st s => ⟨hn _ _ _ _ e, ?_⟩
    have h2 := PR.step h st
    simp only [Res.bind] at h2
    exact PR.callF s0 st s h2
  | exc x S1 => rw [e] at h; exact h
  | bad => rw [e] at h; exact h
/-- how many there are -/
def Es.len : Es → Nat
  | .nil => 0
  | .cons _ es => es.len + 1
theorem evs_len : ∀ (es : Es) (η : Sg) (S : Hs) (xs : List Vl) (S1 : Hs), evs M es η S = .ok xs S1 → xs.length = es.len
  | .nil, η, S, xs, S1, h => by
    simp only [evs] at h
    cases h; rfl
  | .cons e es, η, S, xs, S1, h => by
    simp only [evs] at h
    cases e1 : ev M e η S with
    | ok x S2 =>
      rw [e1] at h; simp only [Res.bind] at h
      cases e2 : evs M es η S2 with
      | ok ys S3 =>
        rw [e2] at h; cases h
        simp only [List.length_cons, Es.len, evs_len es η S2 ys _ e2]
      | exc x S3 => rw [e2] at h; cases h
      | bad => rw [e2] at h; cases h
    | exc x S2 => rw [e1] at h; cases h
    | bad => rw [e1] at h; cases h
end
end Oz
set_option Elab.async false
set_option linter.all false
set_option maxRecDepth 100000
set_option maxHeartbeats 4000000
set_option autoImplicit false
/-! Oz: zip and enumerate over lists, tuples and texts. -/
namespace Oz
open PySem L2 PyProof.Rows

/-- what is walked -/
inductive Kq where
  | lst (a : Addr) | tup (a : Addr) | txt (z : Str)
def Kq.v : Kq → V
  | .lst a => .ref a
  | .tup a => .ref a
  | .txt z => .str z
def Kq.cur (K : PySem.W.Frag) (H : Hp) : Kq → List V → Prop
  | .lst a, vs => SqL K H a vs
  | .tup a, vs => SqT K H a vs
  | .txt z, vs => vs = z.cps.toList.map fun c => V.str ⟨#[c]⟩
def Kq.at_ (h : Heap) (it : Addr) (i : Nat) : Kq → Prop
  | .lst a => h.IsListIter it a i
  | .tup a => h.IsTupleIter it a i
  | .txt z => ∃ t, h.IsStrIter it (strIterType z) z t i
def Kq.lt (n : Nat) : Kq → Prop
  | .lst a => a < n
  | .tup a => a < n
  | .txt _ => True
theorem Kq.keep {h h' : Heap} {it : Addr} {i : Nat} : ∀ {q : Kq}, q.at_ h it i → (∀ o, h.get? it = some o → h'.get? it = some o) → q.at_ h' it i
  | .lst a, st, k => Heap.IsListIter.at st k
  | .tup a, st, k => Heap.IsTupleIter.at st k
  | .txt z, ⟨t, o, e, r⟩, k => ⟨t, o, k o e, r⟩
theorem Kq.live {h : Heap} {it : Addr} {i : Nat} : ∀ {q : Kq}, q.at_ h it i → ∃ o, h.get? it = some o ∧ ∀ v, o.data ≠ .cell v
  | .lst a, ⟨o, e, c, d⟩ => ⟨o, e, fun v z => by rw [d] at z; cases z⟩
  | .tup a, ⟨o, e, c, d⟩ => ⟨o, e, fun v z => by rw [d] at z; cases z⟩
  | .txt z, ⟨t, o, e, c, d⟩ => ⟨o, e, fun v z => by rw [d] at z; cases z⟩
section
variable {X : Cx} {pins : List (Addr × Obj)} {σ : L2.St} {H : Hp} {s : Shared}
theorem Kq.inj (I : Inv X pins σ H s) : ∀ {q : Kq} {vs ws : List V}, q.cur X.K H vs → q.cur X.K H ws → vs = ws
  | .lst a, _, _, h1, h2 => I.list_inj h1 h2
  | .tup a, _, _, h1, h2 => I.tuple_inj h1 h2
  | .txt z, _, _, h1, h2 => h1.trans h2.symm
/-- how its iterator goes on, from now on -/
theorem Kq.draws (I : Inv X pins σ H s) (hc : X.A.handled = none) {it : Addr} {i n : Nat} {vs : List V} : ∀ {q : Kq}, q.cur X.K H vs → q.at_ s.heap it i → q.lt n → n ≤ it →
    ∃ (fp : List Addr) (P : Nat → Value → Prop) (St : Nat → Heap → Prop), Draws X.prog X.w X.A.in1 it fp vs.length P St ∧ it ∈ fp ∧ St i s.heap ∧ (∀ b ∈ fp, b = it ∨ b < n) ∧ (∀ j x, P j x → ∃ v, vs[j]? = some v ∧ RelV v x) ∧ (∀ j h, St j h → q.at_ h it j)
  | .lst a, c, st, l, hn => by
    obtain ⟨its, rv, p, hz⟩ := I.list c
    have ne : a ≠ it := Nat.ne_of_lt (Nat.lt_of_lt_of_le l hn)
    have D := Draws.list (prog := X.prog) (w := X.w) (A := X.A.in1) (show X.A.in1.handled = none from hc) it a ne its.toArray
    have e : its.toArray.size = vs.length := by rw [List.size_toArray, rv.length]
    rw [e] at D
    refine ⟨_, _, _, D, by simp, ⟨st, p.isList⟩, fun b hb => ?_, fun j x hx => ?_, fun j h q => q.1⟩
    · rcases List.mem_cons.mp hb with z | z
      · exact .inl z
      · rw [List.mem_singleton.mp z]; exact .inr l
    · have hx' : its[j]? = some x := by simpa using hx
      have hj : j < vs.length := by rw [rv.length]; exact (List.getElem?_eq_some_iff.mp hx').1
      obtain ⟨u, hu, ru⟩ := rv.get (List.getElem?_eq_getElem hj)
      rw [hx'] at hu; cases hu
      exact ⟨_, List.getElem?_eq_getElem hj, ru⟩
  | .tup a, c, st, l, hn => by
    obtain ⟨its, rv, p, hz⟩ := I.tuple c
    have ne : a ≠ it := Nat.ne_of_lt (Nat.lt_of_lt_of_le l hn)
    have D := Draws.tuple (prog := X.prog) (w := X.w) (A := X.A.in1) (show X.A.in1.handled = none from hc) it a ne its.toArray
    have e : its.toArray.size = vs.length := by rw [List.size_toArray, rv.length]
    rw [e] at D
    refine ⟨_, _, _, D, by simp, ⟨st, p⟩, fun b hb => ?_, fun j x hx => ?_, fun j h q => q.1⟩
    · rcases List.mem_cons.mp hb with z | z
      · exact .inl z
      · rw [List.mem_singleton.mp z]; exact .inr l
    · have hx' : its[j]? = some x := by simpa using hx
      have hj : j < vs.length := by rw [rv.length]; exact (List.getElem?_eq_some_iff.mp hx').1
      obtain ⟨u, hu, ru⟩ := rv.get (List.getElem?_eq_getElem hj)
      rw [hx'] at hu; cases hu
      exact ⟨_, List.getElem?_eq_getElem hj, ru⟩
  | .txt z, c, ⟨t, st⟩, l, hn => by
    have D := Draws.text (prog := X.prog) (w := X.w) (A := X.A.in1) (show X.A.in1.handled = none from hc) it z t
    have e : z.cps.size = vs.length := by rw [show vs = _ from c, List.length_map, Array.length_toList]
    rw [e] at D
    refine ⟨_, _, _, D, by simp, st, fun b hb => .inl (List.mem_singleton.mp hb), fun j x hx => ?_, fun j h q => ⟨t, q⟩⟩
    obtain ⟨c', u, h1, rfl⟩ := hx
    refine ⟨.str ⟨#[c']⟩, ?_, ⟨u, rfl⟩⟩
    rw [show vs = _ from c, List.getElem?_map, Array.getElem?_toList, h1]; rfl
/-- the new iterator -/
theorem Kq.begins (I : Inv X pins σ H s) {vs : List V} {u : Value} : ∀ {q : Kq}, q.cur X.K H vs → RelV q.v u → ∃ (o : Obj) (Hk : Heap → Prop), Begins u o Hk ∧ Hk s.heap ∧ q.lt s.heap.objs.size ∧ ∀ (h' : Heap) (it : Addr), h'.get? it = some o → q.at_ h' it 0
  | .lst a, c, r => by
    obtain ⟨its, rv, p, hz⟩ := I.list c
    obtain rfl : u = Value.ref a := r
    exact ⟨_, _, begins_list a its.toArray, p.isList, p.lt, fun h' it e => ⟨_, e, rfl, rfl⟩⟩
  | .tup a, c, r => by
    obtain ⟨its, rv, p, hz⟩ := I.tuple c
    obtain rfl : u = Value.ref a := r
    obtain ⟨o, ho, _⟩ := id p
    exact ⟨_, _, begins_tuple a its.toArray, p, Heap.lt_size ho, fun h' it e => ⟨_, e, rfl, rfl⟩⟩
  | .txt z, c, r => by
    obtain ⟨t, rfl⟩ := r
    exact ⟨_, _, begins_text z t, trivial, trivial, fun h' it e => ⟨t, _, e, rfl, rfl⟩⟩
end

/-! ### zip -/
theorem five {n c : Nat} (h : c ∈ [n + 4, n + 2, n + 3, n, n + 1]) : n ≤ c ∧ c ≤ n + 4 := by
  simp at h; omega
theorem two {n c : Nat} (h : c ∈ [n + 1, n]) : n ≤ c ∧ c ≤ n + 1 := by
  simp at h; omega
theorem sep5 {n : Nat} {f1 f2 : List Nat} (m1 : n ∈ f1) (m2 : n + 1 ∈ f2) (o1 : ∀ b ∈ f1, b = n ∨ b < n) (o2 : ∀ b ∈ f2, b = n + 1 ∨ b < n) : ZipSep2 (n + 4) (n + 2) (n + 3) n (n + 1) f1 f2 := by
  have a1 : ∀ b, n < b → b ∉ f1 := fun b hb h => by have := o1 b h; omega
  have a2 : ∀ b, n ≤ b → b ≠ n + 1 → b ∉ f2 := fun b hb hn h => by have := o2 b h; omega
  exact ⟨show n + 2 ≠ n + 4 by omega, show n + 3 ≠ n + 4 by omega, show n + 2 ≠ n + 3 by omega, show n + 2 ≠ n by omega, m1, a1 _ (by omega), a1 _ (by omega), show n + 2 ≠ n + 1 by omega, m2, a2 _ (by omega) (by omega), a2 _ (by omega) (by omega), a2 _ (by omega) (by omega), a1 _ (by omega)⟩
def Itz2 (K : PySem.W.Frag) (q r : Kq) : It :=
  ⟨fun i H => ∃ (vs ws : List V), q.cur K H vs ∧ r.cur K H ws ∧ i < vs.length ∧ i < ws.length,
    fun i H v H' => ∃ T x y, v = .ref T ∧ H T = none ∧ H' = upd H T (.tup [x, y]) ∧ (∀ vs, q.cur K H vs → vs[i]? = some x) ∧ ∀ ws, r.cur K H ws → ws[i]? = some y,
    fun i H => ∃ (vs ws : List V), q.cur K H vs ∧ r.cur K H ws ∧ i ≤ vs.length ∧ i ≤ ws.length ∧ (i = vs.length ∨ i = ws.length)⟩
theorem turn_zip2 {P : Program} {w : World} {K : PySem.W.Frag} {elts : List Expr} {kk : Nat} {tpos : Pos} {q r : Kq} {n : Nat} (lq : q.lt n) (lr : r.lt n) :
    Turn P w K (.Tuple elts kk tpos) (Itz2 K q r) [n + 4, n + 2, n + 3, n, n + 1] (n + 4) (fun i h => IsZip h (n + 4) (n + 2) (n + 3) .none ∧ IsTupOf2 h (n + 2) (.ref n) (.ref (n + 1)) ∧ (∃ x y, IsTupOf2 h (n + 3) x y) ∧ q.at_ h n i ∧ r.at_ h (n + 1) i) where
  mem := by simp
  obj := fun i h st c hc => by
    obtain ⟨hz, hTI, ⟨x, y, hTO⟩, h1, h2⟩ := st
    have e' : c = n + 4 ∨ c = n + 2 ∨ c = n + 3 ∨ c = n ∨ c = n + 1 := by simpa using hc
    rcases e' with q | q | q | q | q
    · rw [q]; exact ⟨_, hz, fun v q => nomatch q⟩
    · rw [q]; exact ⟨_, hTI, fun v q => nomatch q⟩
    · rw [q]; exact ⟨_, hTO, fun v q => nomatch q⟩
    · rw [q]; exact Kq.live h1
    · rw [q]; exact Kq.live h2
  keep := fun i h h' st k => by
    obtain ⟨hz, hTI, ⟨x, y, hTO⟩, h1, h2⟩ := st
    exact ⟨k (n + 4) (by simp) _ hz, k (n + 2) (by simp) _ hTI, ⟨x, y, k (n + 3) (by simp) _ hTO⟩, Kq.keep h1 fun o e => k n (by simp) o e, Kq.keep h2 fun o e => k (n + 1) (by simp) o e⟩
  item := by
    intro X hP hw hK hc i pins s σ H E I hf st hg
    subst hP hw hK
    obtain ⟨hz, hTI, ⟨x0, y0, hTO⟩, h1, h2⟩ := st
    obtain ⟨vs, ws, c1, c2, i1, i2⟩ := hg
    obtain ⟨f1, P1, S1, D1, m1, s1, b1, p1, a1⟩ := Kq.draws I (I.ok.hd hc) c1 h1 lq (Nat.le_refl _)
    obtain ⟨f2, P2, S2, D2, m2, s2, b2, p2, a2⟩ := Kq.draws I (I.ok.hd hc) c2 h2 lr (Nat.le_succ _)
    have sep := sep5 m1 m2 b1 b2
    have hzl : n + 4 < s.heap.objs.size := Heap.lt_size hz
    refine wpAny_pyNext_zipD2_item sep D1 D2 hz hTI hTO s1 s2 i1 i2 fun x1 x2 h' tk px py z' TO' t1 t2 hT hsz hk => ?_
    obtain ⟨x, ex, rx⟩ := p1 i x1 px
    obtain ⟨y, ey, ry⟩ := p2 i x2 py
    refine ⟨_, rfl, wpAny_letOwnedTupleGo_zip (s := { s with heap := h', toks := tk }) z' fun h'' z'' sb => ?_⟩
    have hT2 : h''.get? s.heap.objs.size = some { cls := .type "tuple", data := .seq #[x1, x2] } := (sb.2 _ (Nat.ne_of_gt hzl)).trans hT
    have new : ObjOk X.prog X.w (upd H s.heap.objs.size (.tup [x, y])) h'' s.heap.objs.size (.tup [x, y]) :=
      ⟨by show 2 ≤ sizeLine; decide, [x1, x2], .cons rx (.cons ry .nil), ⟨_, hT2, rfl, _, rfl⟩⟩
    have I1 : Inv X pins σ (upd H s.heap.objs.size (.tup [x, y])) { s with heap := h'', toks := tk } :=
      I.turnedNew (t' := tk) (ch := [n + 4, n + 2, n + 3, n, n + 1]) (fun c o hb e => (sb.2 c (fun q' => hb (by simp [q']))).trans (hk c o (fun q' => hb (by simp [q'])) (fun q' => hb (by simp [q'])) (fun q' => hb (by simp [q'])) (fun q' => hb (by simp [q'])) e)) hf (Nat.le_refl _) new
    refine ⟨.ref s.heap.objs.size, _, I1, rfl, ⟨_, x, y, rfl, I.hok.fresh (Nat.le_refl _), rfl, fun l hl => by rw [Kq.inj I hl c1]; exact ex, fun l hl => by rw [Kq.inj I hl c2]; exact ey⟩, ⟨z'', ?_, ⟨x1, x2, ?_⟩, ?_, ?_⟩, fun c hcm => ?_⟩
    · exact (sb.2 _ sep.TIz).trans (hk _ _ sep.TIz sep.TITO sep.TIi1 sep.TIi2 hTI)
    · exact (sb.2 _ sep.TOz).trans TO'
    · exact Kq.keep (a1 _ _ t1) fun o e => (sb.2 _ (show n ≠ n + 4 by omega)).trans e
    · exact Kq.keep (a2 _ _ t2) fun o e => (sb.2 _ (show n + 1 ≠ n + 4 by omega)).trans e
    · have hlt : c < s.heap.objs.size := by
        have e' := five hcm
        exact Nat.lt_of_le_of_lt e'.2 hzl
      rw [upd_ne (Nat.ne_of_lt hlt)]
      exact (hf c hcm).1
  done := by
    intro X hP hw hK hc i pins s σ H E I hf st hg
    subst hP hw hK
    obtain ⟨hz, hTI, ⟨x0, y0, hTO⟩, h1, h2⟩ := st
    obtain ⟨vs, ws, c1, c2, i1, i2, hend⟩ := hg
    obtain ⟨f1, P1, S1, D1, m1, s1, b1, p1, a1⟩ := Kq.draws I (I.ok.hd hc) c1 h1 lq (Nat.le_refl _)
    obtain ⟨f2, P2, S2, D2, m2, s2, b2, p2, a2⟩ := Kq.draws I (I.ok.hd hc) c2 h2 lr (Nat.le_succ _)
    have sep := sep5 m1 m2 b1 b2
    refine wpAny_pyNext_zipD2_end sep D1 D2 hz hTI hTO s1 s2 i1 i2 hend fun h' tk hk => ⟨rfl, I.turnedL (t' := tk) (ch := [n + 4, n + 2, n + 3, n, n + 1]) (fun c o hb q =>
      hk c o (fun q' => hb (by simp [q'])) (fun q' => hb (by simp [q'])) (fun q' => hb (by simp [q'])) (fun q' => hb (by simp [q'])) q) hf⟩
  self := fun A i s Q E st h => wpAny_pyIter_zip st.1 h
def iZip2 (K : PySem.W.Frag) (ta : TA) : TI := fun σ H R => ta σ H fun xs H1 => ∃ q r vs ws, xs = [Kq.v q, Kq.v r] ∧ q.cur K H1 vs ∧ r.cur K H1 ws ∧ R (Itz2 K q r) H1
theorem pi_zip2 {X : Cx} {e e2 : Expr} {ta : TA} {p pos tpos : Pos} {elts : List Expr} {kk : Nat} (hg : Gl X "zip") (hm : X.mg "zip" = none) (ha : PA X [e, e2] ta)
    (hs : starEach [e, e2] X.env = (false, eval e X.env) :: starEach [e2] X.env := by rfl) (hpl : (backTo pos (starEach [e2] X.env)).any (·.1) = false := by rfl) :
    PI X (.Tuple elts kk tpos) (.Call (.Name "zip" p) [e, e2] [] pos) (iZip2 X.K ta) := by
  refine ⟨fun pins s σ H R I h => ?_⟩
  refine Call_ (ld_blt I hg hm PyProof.Rows.boot_zip (PyProof.Rows.callWith_type1 (thn (ha.run pos pins s σ H _ I h) fun us s1 ⟨xs, H1, I1, r1, q1⟩ => ?_) hs hpl))
  obtain ⟨q, r, vs, ws, ex, c1, c2, hR⟩ := q1
  subst ex
  obtain ⟨u1, u2, rfl, ru1, ru2⟩ := vals2 r1
  obtain ⟨o1, K1, B1, k1, l1, a1⟩ := Kq.begins I1 c1 ru1
  obtain ⟨o2, K2, B2, k2, l2, a2⟩ := Kq.begins I1 c2 ru2
  refine zip_begins2 B1 B2 k1 k2 fun h' hz hTI hTO g1 g2 hsz hk => wpAny_pyIter_zip hz ?_
  have I2 : Inv X pins σ H1 { s1 with heap := h' } := I1.kept (t' := s1.toks) hk
  refine ⟨_, [s1.heap.objs.size + 4, s1.heap.objs.size + 2, s1.heap.objs.size + 3, s1.heap.objs.size, s1.heap.objs.size + 1], _, _, H1, rfl, I2, turn_zip2 l1 l2, ⟨hz, hTI, ⟨_, _, hTO⟩, a1 _ _ g1, a2 _ _ g2⟩, fun c hcm => ?_, hR⟩
  have hle : s1.heap.objs.size ≤ c := (five hcm).1
  exact I1.fpOk hle (I1.hok.fresh hle)

/-! ### enumerate -/
def Ite2 (K : PySem.W.Frag) (k0 : Int) (q : Kq) : It :=
  ⟨fun i H => ∃ (vs : List V), q.cur K H vs ∧ i < vs.length,
    fun i H v H' => ∃ T x, v = .ref T ∧ H T = none ∧ H' = upd H T (.tup [.int (k0 + (i : Nat)), x]) ∧ ∀ vs, q.cur K H vs → vs[i]? = some x,
    fun i H => ∃ (vs : List V), q.cur K H vs ∧ i = vs.length⟩
theorem turn_enum2 {P : Program} {w : World} {K : PySem.W.Frag} {elts : List Expr} {kk : Nat} {tpos : Pos} {k0 : Int} {q : Kq} {n : Nat} (lq : q.lt n) :
    Turn P w K (.Tuple elts kk tpos) (Ite2 K k0 q) [n + 1, n] (n + 1) (fun i h => (∃ old, IsEnum h (n + 1) n (k0 + (i : Nat)) old) ∧ q.at_ h n i) where
  mem := by simp
  obj := fun i h st b hb => by
    obtain ⟨⟨old, he⟩, h1⟩ := st
    have e' : b = n + 1 ∨ b = n := by simpa using hb
    rcases e' with z | z
    · rw [z]; exact ⟨_, he, fun v q => nomatch q⟩
    · rw [z]; exact Kq.live h1
  keep := fun i h h' st k => let ⟨⟨old, he⟩, hi⟩ := st; ⟨⟨old, k (n + 1) (by simp) _ he⟩, Kq.keep hi fun o q => k n (by simp) o q⟩
  item := by
    intro X hP hw hK hc i pins s σ H E I hf st hg
    subst hP hw hK
    obtain ⟨⟨old, he⟩, h1⟩ := st
    obtain ⟨vs, c1, i1⟩ := hg
    obtain ⟨f1, P1, S1, D1, m1, s1, b1, p1, a1⟩ := Kq.draws I (I.ok.hd hc) c1 h1 lq (Nat.le_refl _)
    have hel : n + 1 < s.heap.objs.size := Heap.lt_size he
    have hef : n + 1 ∉ f1 := fun h => (b1 _ h).elim (fun e => Nat.succ_ne_self n e) fun l => absurd l (by show ¬ n + 1 < n; omega)
    refine wpAny_pyNext_enum_itemC D1 he s1 i1 (Nat.succ_ne_self n) hef fun x1 h' tk px ho st' hT hsz hk => ?_
    obtain ⟨x, ex, rx⟩ := p1 i x1 px
    refine ⟨_, rfl, wpAny_letOwnedTupleGo_enum (s := { s with heap := h', toks := tk + 1 }) ho fun h'' he' sb => ?_⟩
    have hT2 : h''.get? s.heap.objs.size = some { cls := .type "tuple", data := .seq #[.int (k0 + (i : Nat)) tk, x1] } := (sb.2 _ (Nat.ne_of_gt hel)).trans hT
    have new : ObjOk X.prog X.w (upd H s.heap.objs.size (.tup [.int (k0 + (i : Nat)), x])) h'' s.heap.objs.size (.tup [.int (k0 + (i : Nat)), x]) :=
      ⟨by show 2 ≤ sizeLine; decide, [.int (k0 + (i : Nat)) tk, x1], .cons ⟨_, rfl⟩ (.cons rx .nil), ⟨_, hT2, rfl, _, rfl⟩⟩
    have I1 : Inv X pins σ (upd H s.heap.objs.size (.tup [.int (k0 + (i : Nat)), x])) { s with heap := h'', toks := tk + 1 } :=
      I.turnedNew (ch := [n + 1, n]) (fun b ob hb q => (sb.2 b (fun z => hb (by simp [z]))).trans (hk b ob (fun z => hb (by simp [z])) (fun z => hb (by simp [z])) q)) hf (Nat.le_refl _) new
    refine ⟨.ref s.heap.objs.size, _, I1, rfl, ⟨_, x, rfl, I.hok.fresh (Nat.le_refl _), rfl, fun ys hy => by rw [Kq.inj I hy c1]; exact ex⟩, ⟨⟨x1, ?_⟩, Kq.keep (a1 _ _ st') fun o q => (sb.2 n (show n ≠ n + 1 by omega)).trans q⟩, fun b hb => ?_⟩
    · have e1 : k0 + ((i + 1 : Nat) : Int) = k0 + (i : Nat) + 1 := by omega
      rw [e1]; exact he'
    · have hb' : b < s.heap.objs.size := Nat.lt_of_le_of_lt (two hb).2 hel
      rw [upd_ne (Nat.ne_of_lt hb')]
      exact (hf b hb).1
  done := by
    intro X hP hw hK hc i pins s σ H E I hf st hg
    subst hP hw hK
    obtain ⟨⟨old, he⟩, h1⟩ := st
    obtain ⟨vs, c1, i1⟩ := hg
    obtain ⟨f1, P1, S1, D1, m1, s1, b1, p1, a1⟩ := Kq.draws I (I.ok.hd hc) c1 h1 lq (Nat.le_refl _)
    have D2 : Draws X.prog X.w X.A.in1 n f1 i P1 S1 := by rw [i1]; exact D1
    exact wpAny_pyNext_enum_endD D2 he s1 fun h' hx => ⟨rfl, I.turnedL (t' := s.toks) (ch := [n + 1, n]) (fun b o hb q => hx b o (fun z => hb (by simp [z])) q) hf⟩
  self := fun A i s Q E st h => let ⟨⟨_, he⟩, _⟩ := st; wpAny_pyIter_enum he h
def iEnum2 (K : PySem.W.Frag) (k0 : Int) (ta : TA) : TI := fun σ H R => ta σ H fun xs H1 => ∃ q vs, xs = [Kq.v q] ∧ q.cur K H1 vs ∧ R (Ite2 K k0 q) H1
theorem pie_enum2 {X : Cx} {pins : List (Addr × Obj)} {σ : L2.St} {H1 : Hp} {s1 : Shared} {q : Kq} {vs : List V} {k0 : Int} {tpos : Pos} {elts : List Expr} {kk : Nat} {R : It → Hp → Prop} {h' : Heap} {o : Obj} {E : Value → Shared → Prop} (I1 : Inv X pins σ H1 s1) (c1 : q.cur X.K H1 vs) (l1 : q.lt s1.heap.objs.size) (a1 : ∀ (h' : Heap) (it : Addr), h'.get? it = some o → q.at_ h' it 0)
    (he : IsEnum h' (s1.heap.objs.size + 1) s1.heap.objs.size k0 .none) (g1 : h'.get? s1.heap.objs.size = some o) (hk : ∀ b o, s1.heap.get? b = some o → h'.get? b = some o) (hR : R (Ite2 X.K k0 q) H1) :
    wpAny (model X.prog X.w) X.A (pyIter (.ref (s1.heap.objs.size + 1))) (PIE X pins σ (.Tuple elts kk tpos) R) E { s1 with heap := h' } := by
  refine wpAny_pyIter_enum he ?_
  have I2 : Inv X pins σ H1 { s1 with heap := h' } := I1.kept (t' := s1.toks) hk
  refine ⟨_, [s1.heap.objs.size + 1, s1.heap.objs.size], _, _, H1, rfl, I2, turn_enum2 (k0 := k0) l1, ⟨⟨.none, ?_⟩, a1 _ _ g1⟩, fun c hcm => ?_, hR⟩
  · have e1 : k0 + ((0 : Nat) : Int) = k0 := by omega
    rw [e1]; exact he
  · have hle : s1.heap.objs.size ≤ c := (two hcm).1
    exact I1.fpOk hle (I1.hok.fresh hle)
end Oz
set_option Elab.async false
set_option linter.all false
set_option maxRecDepth 100000
set_option maxHeartbeats 4000000
set_option autoImplicit false
/-! Oz: what loops walk. -/
namespace Oz
open PySem L2 PyProof.Rows

/-- the same walk, told otherwise -/
theorem turn_to {P : Program} {w : World} {K : PySem.W.Frag} {tg : Expr} {J J' : It} {fp : List Addr} {it : Addr} {tn : Nat → Heap → Prop} (T : Turn P w K tg J fp it tn)
    (hg : ∀ i H, J'.go i H → J.go i H) (hy : ∀ i H x H', J'.go i H → J.yld i H x H' → J'.yld i H x H') (hs : ∀ i H, J'.stop i H → J.stop i H) : Turn P w K tg J' fp it tn where
  mem := T.mem
  obj := T.obj
  keep := T.keep
  item := fun X hP hw hK hc i pins s σ H E I hf st hgo => wpAny_mono (T.item X hP hw hK hc i pins s σ H E I hf st (hg i H hgo)) (fun r s1 ⟨u, hr, h4⟩ => ⟨u, hr, wpAny_mono h4 (fun _ s2 ⟨x, H', I', r', y, rest⟩ => ⟨x, H', I', r', hy i H x H' hgo y, rest⟩) fun _ _ z => z⟩) fun _ _ z => z
  done := fun X hP hw hK hc i pins s σ H E I hf st hst => T.done X hP hw hK hc i pins s σ H E I hf st (hs i H hst)
  self := T.self
/-- what is walked, as it stands at each turn -/
def Itq (K : PySem.W.Frag) (q : Kq) : It :=
  ⟨fun i H => ∃ vs : List V, q.cur K H vs ∧ i < vs.length, fun i H x H' => H' = H ∧ ∀ vs, q.cur K H vs → vs[i]? = some x, fun i H => ∃ vs : List V, q.cur K H vs ∧ i = vs.length⟩
def iSeq (K : PySem.W.Frag) (te : TE) : TI := fun σ H R => te σ H fun x H1 => ∃ q : Kq, x = q.v ∧ (∃ vs, q.cur K H1 vs) ∧ R (Itq K q) H1
theorem pi_seq {X : Cx} {tg e : Expr} {te : TE} (he : PE X e te) : PI X tg e (iSeq X.K te) := by
  refine ⟨fun pins s σ H R I h => ?_⟩
  refine thn (he.run pins s σ H _ I h) fun v s1 ⟨x, H1, I1, r1, q1⟩ => ?_
  obtain ⟨q, e, ⟨xs, hq⟩, hR⟩ := q1
  subst e
  cases q with
  | lst a =>
    cases r1
    obtain ⟨its, rv, p, hz⟩ := I1.list hq
    refine wpAny_pyIter_list p.isList ?_
    refine ⟨s1.heap.objs.size, [s1.heap.objs.size], _, _, H1, rfl, I1.kept (t' := s1.toks) fun b o e => Heap.get?_push_of_some _ e, turn_to (J' := Itq X.K (.lst a)) (turn_list a s1.heap.objs.size) (fun i H ⟨vs, c, l⟩ => ⟨vs, vs[i], c, by simp [l]⟩) (fun i H x H' _ y => y) (fun i H ⟨vs, c, l⟩ => ⟨vs, c, by omega⟩), ⟨_, Heap.get?_push_size _ rfl, rfl, rfl⟩, fun b hb => ?_, hR⟩
    have e : b = s1.heap.objs.size := by simpa using hb
    subst e
    exact I1.fpOk (Nat.le_refl _) (I1.hok.fresh (Nat.le_refl _))
  | tup a =>
    cases r1
    obtain ⟨its, rv, p, hz⟩ := I1.tuple hq
    refine wpAny_pyIter_tuple (show s1.heap.IsTuple a its.toArray from p) ?_
    refine ⟨s1.heap.objs.size, [s1.heap.objs.size], _, _, H1, rfl, I1.kept (t' := s1.toks) fun b o e => Heap.get?_push_of_some _ e, turn_to (J' := Itq X.K (.tup a)) (turn_tuple a s1.heap.objs.size) (fun i H ⟨vs, c, l⟩ => ⟨vs, vs[i], c, by simp [l]⟩) (fun i H x H' _ y => y) (fun i H ⟨vs, c, l⟩ => ⟨vs, c, by omega⟩), ⟨_, Heap.get?_push_size _ rfl, rfl, rfl⟩, fun b hb => ?_, hR⟩
    have e : b = s1.heap.objs.size := by simpa using hb
    subst e
    exact I1.fpOk (Nat.le_refl _) (I1.hok.fresh (Nat.le_refl _))
  | txt z =>
    obtain ⟨t, rfl⟩ := r1
    have key : ∀ (it : Addr) (ty : String) (hty : ty = "str_ascii_iterator" ∨ ty = "str_iterator"), Turn X.prog X.w X.K tg (Itq X.K (.txt z)) [it] it (fun i h => h.IsStrIter it ty z t i) := fun it ty hty =>
      turn_to (J' := Itq X.K (.txt z)) (turn_str it z t ty hty) (fun i H ⟨vs, c, l⟩ => by
        have c' : vs = z.cps.toList.map fun c => V.str ⟨#[c]⟩ := c
        subst c'
        show i < z.cps.size
        simpa using l) (fun i H x H' _ ⟨e, c, hc, hx⟩ => ⟨e, fun vs c' => by
          have c' : vs = z.cps.toList.map fun c => V.str ⟨#[c]⟩ := c'
          subst c'
          rw [List.getElem?_map, Array.getElem?_toList, hc, hx]; rfl⟩) (fun i H ⟨vs, c, l⟩ => by
        have c' : vs = z.cps.toList.map fun c => V.str ⟨#[c]⟩ := c
        subst c'
        show z.cps.size ≤ i
        simp at l; omega)
    cases ha : z.cps.all (· < 128)
    · exact wpAny_pyIter_wide ha (pi_one (tk := s1.toks) I1 _ (key _ "str_iterator" (.inr rfl)) ⟨_, Heap.get?_push_size _ rfl, rfl, rfl⟩ hR)
    · exact wpAny_pyIter_ascii ha (pi_one (tk := s1.toks) I1 _ (key _ "str_ascii_iterator" (.inl rfl)) ⟨_, Heap.get?_push_size _ rfl, rfl, rfl⟩ hR)

/-! ### enumerate of anything that begins -/
set_option maxHeartbeats 1000000 in
theorem meets_en {v : Value} {o : Obj} {Hk : Heap → Prop} (B : Begins v o Hk) :
    Meets (Builtin.«enumerate.__new__» ⟨[.type "enumerate", v], []⟩) (fun _ R s => Hk s.heap ∧
      R (.ok (.ret (.ref (s.heap.push o).objs.size))) { s with heap := (s.heap.push o).push { cls := .type "enumerate", data := .fields #[.none, .bool false, .ref s.heap.objs.size, rawInt 0, .none, .none] } }) :=
  .of_wp fun prog w A R s hh => by
    obtain ⟨hp, g, d, tk, os⟩ := s
    obtain ⟨h1, hR⟩ := hh
    have isSub := sub_enumerate
    have go : ∀ {A' : Around} {E' : Value → Shared → Prop} {Q' : Value → Shared → Prop}, Q' (.ref hp.objs.size) ⟨hp.push o, g, d, tk, os⟩ → wpAny (model prog w) A' (pyIter v) Q' E' ⟨hp, g, d, tk, os⟩ := fun q => B.iter prog w _ _ ⟨hp, g, d, tk, os⟩ _ h1 q
    wp_walk using go
    refine wpAny_stack_any fun _ => wpAny_pure ?_
    split
    · rename_i c _ _ _ _ _
      cases (c == Value.type "enumerate") <;> (wp_walk using go; exact ⟨_, rfl, hR⟩)
    · wp_walk using go; exact ⟨_, rfl, hR⟩
theorem call_en {prog : Program} {w : World} {A : Around} {E : Value → Shared → Prop} {s : Shared} {v : Value} {o : Obj} {Hk : Heap → Prop} {Q : Value → Shared → Prop} (B : Begins v o Hk) (h1 : Hk s.heap)
    (h : ∀ h', IsEnum h' (s.heap.objs.size + 1) s.heap.objs.size 0 .none → h'.get? s.heap.objs.size = some o → (∀ b o, s.heap.get? b = some o → h'.get? b = some o) → Q (.ref (s.heap.objs.size + 1)) { s with heap := h' }) :
    wpAny (model prog w) A (call (.type "enumerate") [v]) Q E s := by
  refine callType_new F.called_enumerate (by decide) (F.typeCall_enumerate_1 _) (F.newCall_enumerate_1 _) (fun obj => F.args_object_init_2 obj _) F.entry_enumerate_new (meets_en B) ⟨h1, ?_⟩
  have hz : (s.heap.push o).objs.size = s.heap.objs.size + 1 := Heap.size_push ..
  show _ ∧ _
  rw [hz]
  have he : IsEnum ((s.heap.push o).push ⟨.type "enumerate", none, .fields #[.none, .bool false, .ref s.heap.objs.size, rawInt 0, .none, .none], #[]⟩) (s.heap.objs.size + 1) s.heap.objs.size 0 .none := by
    have q := Heap.get?_push_size (s.heap.push o) (o := ⟨.type "enumerate", none, .fields #[.none, .bool false, .ref s.heap.objs.size, rawInt 0, .none, .none], #[]⟩) rfl
    rwa [hz] at q
  exact ⟨⟨_, he, rfl⟩, h _ he (Heap.get?_push_of_some _ (Heap.get?_push_size _ B.free)) fun b o x => Heap.get?_push_of_some _ (Heap.get?_push_of_some _ x)⟩
theorem pi_enum2 {X : Cx} {e : Expr} {ta : TA} {p pos tpos : Pos} {elts : List Expr} {kk : Nat} (hg : Gl X "enumerate") (hm : X.mg "enumerate" = none) (ha : PA X [e] ta) (hs : starEach [e] X.env = [(false, eval e X.env)] := by rfl) :
    PI X (.Tuple elts kk tpos) (.Call (.Name "enumerate" p) [e] [] pos) (iEnum2 X.K 0 ta) := by
  refine ⟨fun pins s σ H R I h => ?_⟩
  refine Call_ (ld_blt I hg hm boot_enumerate (PyProof.Rows.callWith_type1 (thn (ha.run pos pins s σ H _ I h) fun us s1 ⟨xs, H1, I1, r1, q1⟩ => ?_) hs rfl))
  obtain ⟨q, vs, ex, c1, hR⟩ := q1
  subst ex
  cases r1 with
  | cons ru rr =>
    cases rr
    obtain ⟨o1, K1, B1, k1, l1, a1⟩ := Kq.begins I1 c1 ru
    exact call_en B1 k1 fun h' he g1 hk => pie_enum2 I1 c1 l1 a1 he g1 hk hR
/-! ### what stands at what is walked -/
section
variable {G : Glb} {ρ ρ' : List Addr} {H H' : Hp} {S : Hs}
/-- while the locks hold, xs stand there -/
def WK (G : Glb) (ρ0 : List Addr) (H0 : Hp) (q : Kq) (lk : List Lk) (xs : List Vl) : Prop := ∀ ρ H S, StepX ρ0 H0 ρ H → Sim G ρ H S → lockd lk S → ∃ vs, q.cur G.K H vs ∧ VRs G ρ H xs vs
theorem WK.step {q : Kq} {lk : List Lk} {xs : List Vl} (h : WK G ρ H q lk xs) (a : StepX ρ H ρ' H') : WK G ρ' H' q lk xs := fun ρ2 H2 S b s l => h ρ2 H2 S (a.trans b) s l
theorem walk_of (s : Sim G ρ H S) {x : Vl} {v : V} {lk : List Lk} {xs : List Vl} (h : VR G ρ H x v) (e : walkS S x = some (lk, xs)) : ∃ q : Kq, v = q.v ∧ (∃ vs, q.cur G.K H vs) ∧ WK G ρ H q lk xs := by
  cases x with
  | tup ys =>
    simp only [walkS, Option.some.injEq, Prod.mk.injEq] at e
    obtain ⟨rfl, rfl⟩ := e
    simp only [VR] at h
    obtain ⟨a, vs, rfl, h1, h2⟩ := h
    exact ⟨.tup a, rfl, ⟨vs, h1.sq⟩, fun ρ' H' S' st _ _ => ⟨vs, (h1.stepX st).sq, VRs.stepX st _ _ h2⟩⟩
  | lst ys =>
    simp only [walkS, Option.some.injEq, Prod.mk.injEq] at e
    obtain ⟨rfl, rfl⟩ := e
    simp only [VR] at h
    obtain ⟨a, vs, rfl, h1, h2⟩ := h
    exact ⟨.lst a, rfl, ⟨vs, h1.sq⟩, fun ρ' H' S' st _ _ => ⟨vs, (h1.stepX st).sq, VRs.stepX st _ _ h2⟩⟩
  | ref r =>
    simp only [walkS] at e
    split at e
    · rename_i ys eo
      simp only [Option.some.injEq, Prod.mk.injEq] at e
      obtain ⟨rfl, rfl⟩ := e
      obtain ⟨a, rfl, ha, vs, h1, h2⟩ := s.ref h eo
      refine ⟨.lst a, rfl, ⟨vs, SqL.of h1⟩, fun ρ' H' S' st s' l => ?_⟩
      have l1 := l (r, .lst ys) (by simp)
      have hx := VR.stepX st _ _ h
      obtain ⟨a', e', _, vs', h1', h2'⟩ := s'.ref hx l1
      cases e'
      exact ⟨vs', SqL.of h1', h2'⟩
    · cases e
  | _ => simp only [walkS] at e; cases e
theorem VRs.chars (z : Str) : VRs G ρ H (charsL z) (z.cps.toList.map fun c => V.str ⟨#[c]⟩) := by
  unfold charsL
  induction z.cps.toList with
  | nil => exact VRs.nil
  | cons c cs ih => exact VRs.cons (by simp only [VR]) ih
theorem walkT_of (s : Sim G ρ H S) {x : Vl} {v : V} {lk : List Lk} {xs : List Vl} (h : VR G ρ H x v) (e : walkT S x = some (lk, xs)) : ∃ q : Kq, v = q.v ∧ (∃ vs, q.cur G.K H vs) ∧ WK G ρ H q lk xs := by
  cases x with
  | str z =>
    simp only [walkT, Option.some.injEq, Prod.mk.injEq] at e
    obtain ⟨rfl, rfl⟩ := e
    simp only [VR] at h
    subst h
    exact ⟨.txt z, rfl, ⟨_, rfl⟩, fun ρ' H' S' st _ _ => ⟨_, rfl, VRs.chars z⟩⟩
  | _ => exact walk_of s h e
/-- an iterator goes through xs while the locks hold -/
structure JW (G : Glb) (J : It) (ρ0 : List Addr) (H0 : Hp) (lk : List Lk) (xs : List Vl) : Prop where
  go : ∀ ρ H S i x, StepX ρ0 H0 ρ H → Sim G ρ H S → lockd lk S → xs[i]? = some x → J.go i H ∧ ∀ v H', J.yld i H v H' → Same H H' ∧ VR G ρ H' x v
  stop : ∀ ρ H S, StepX ρ0 H0 ρ H → Sim G ρ H S → lockd lk S → J.stop xs.length H
theorem VRs.at_ {xs : List Vl} {vs : List V} {i : Nat} {x : Vl} {v : V} (h : VRs G ρ H xs vs) (e : xs[i]? = some x) (e' : vs[i]? = some v) : VR G ρ H x v := by
  obtain ⟨w, h1, h2⟩ := h.get e
  rw [e'] at h1; cases h1
  exact h2
theorem lt_of_get {α : Type} {xs : List α} {i : Nat} {x : α} (e : xs[i]? = some x) : i < xs.length := (List.getElem?_eq_some_iff.mp e).1
theorem JW.seq {q : Kq} {lk : List Lk} {xs : List Vl} (w : WK G ρ H q lk xs) : JW G (Itq G.K q) ρ H lk xs where
  go := fun ρ' H' S i x st s l e => by
    obtain ⟨vs, c, r⟩ := w ρ' H' S st s l
    refine ⟨⟨vs, c, by rw [← r.length]; exact lt_of_get e⟩, fun v H2 ⟨eH, y⟩ => ?_⟩
    subst eH
    exact ⟨Same.refl _, r.at_ e (y vs c)⟩
  stop := fun ρ' H' S st s l => by
    obtain ⟨vs, c, r⟩ := w ρ' H' S st s l
    exact ⟨vs, c, r.length⟩
theorem pair_new (s : Sim G ρ H S) {T : Addr} {x y : V} {a b : Vl} (hT : H T = none) (ha : VR G ρ H a x) (hb : VR G ρ H b y) : Same H (upd H T (.tup [x, y])) ∧ VR G ρ (upd H T (.tup [x, y])) (.tup [a, b]) (.ref T) := by
  have sm : Same H (upd H T (.tup [x, y])) := same_new hT
  refine ⟨sm, ?_⟩
  simp only [VR]
  exact ⟨T, [x, y], rfl, .inl ⟨.inl upd_same, s.free hT⟩, VRs.step (stepSame sm) _ _ (VRs.cons ha (VRs.cons hb VRs.nil))⟩
theorem zipL_at : ∀ {xs ys : List Vl} {i : Nat} {x : Vl}, (zipL xs ys)[i]? = some x → ∃ a b, xs[i]? = some a ∧ ys[i]? = some b ∧ x = .tup [a, b]
  | [], _, _, _, e => by simp [zipL] at e
  | _ :: _, [], _, _, e => by simp [zipL] at e
  | x :: xs, y :: ys, 0, z, e => by simp [zipL] at e; exact ⟨x, y, rfl, rfl, e.symm⟩
  | x :: xs, y :: ys, i + 1, z, e => by
    simp only [zipL, List.getElem?_cons_succ] at e ⊢
    exact zipL_at e
theorem zipL_len : ∀ {xs ys : List Vl}, (zipL xs ys).length = min xs.length ys.length
  | [], _ => by simp [zipL]
  | _ :: _, [] => by simp [zipL]
  | x :: xs, y :: ys => by simp only [zipL, List.length_cons, zipL_len]; omega
theorem lockd_app {l1 l2 : List Lk} (h : lockd (l1 ++ l2) S) : lockd l1 S ∧ lockd l2 S := ⟨fun p hp => h p (List.mem_append_left _ hp), fun p hp => h p (List.mem_append_right _ hp)⟩
theorem JW.zip {q r : Kq} {l1 l2 : List Lk} {xs ys : List Vl} (w1 : WK G ρ H q l1 xs) (w2 : WK G ρ H r l2 ys) : JW G (Itz2 G.K q r) ρ H (l1 ++ l2) (zipL xs ys) where
  go := fun ρ' H' S i x st s l e => by
    obtain ⟨vs, c1, r1⟩ := w1 ρ' H' S st s (lockd_app l).1
    obtain ⟨ws, c2, r2⟩ := w2 ρ' H' S st s (lockd_app l).2
    obtain ⟨a, b, e1, e2, rfl⟩ := zipL_at e
    refine ⟨⟨vs, ws, c1, c2, by rw [← r1.length]; exact lt_of_get e1, by rw [← r2.length]; exact lt_of_get e2⟩, fun v H2 ⟨T, x, y, ev, hT, eH, y1, y2⟩ => ?_⟩
    subst ev eH
    exact pair_new s hT (r1.at_ e1 (y1 vs c1)) (r2.at_ e2 (y2 ws c2))
  stop := fun ρ' H' S st s l => by
    obtain ⟨vs, c1, r1⟩ := w1 ρ' H' S st s (lockd_app l).1
    obtain ⟨ws, c2, r2⟩ := w2 ρ' H' S st s (lockd_app l).2
    have := r1.length
    have := r2.length
    have := @zipL_len xs ys
    exact ⟨vs, ws, c1, c2, by omega, by omega, by omega⟩
theorem enumL_at : ∀ {xs : List Vl} {k : Int} {i : Nat} {x : Vl}, (enumL k xs)[i]? = some x → ∃ a, xs[i]? = some a ∧ x = .tup [.int (k + (i : Nat)), a]
  | [], _, _, _, e => by simp [enumL] at e
  | x :: xs, k, 0, z, e => by simp [enumL] at e; exact ⟨x, rfl, by rw [← e]; simp⟩
  | x :: xs, k, i + 1, z, e => by
    simp only [enumL, List.getElem?_cons_succ] at e ⊢
    obtain ⟨a, h1, h2⟩ := enumL_at e
    refine ⟨a, h1, ?_⟩
    rw [h2]
    have : k + 1 + (i : Nat) = k + ((i + 1 : Nat) : Int) := by omega
    rw [this]
theorem enumL_len : ∀ {xs : List Vl} {k : Int}, (enumL k xs).length = xs.length
  | [], _ => rfl
  | x :: xs, k => by simp only [enumL, List.length_cons, enumL_len]
theorem JW.enm {q : Kq} {lk : List Lk} {xs : List Vl} {k : Int} (w : WK G ρ H q lk xs) : JW G (Ite2 G.K k q) ρ H lk (enumL k xs) where
  go := fun ρ' H' S i x st s l e => by
    obtain ⟨vs, c, r⟩ := w ρ' H' S st s l
    obtain ⟨a, e1, rfl⟩ := enumL_at e
    refine ⟨⟨vs, c, by rw [← r.length]; exact lt_of_get e1⟩, fun v H2 ⟨T, x, ev, hT, eH, y⟩ => ?_⟩
    subst ev eH
    exact pair_new s hT (by simp only [VR]) (r.at_ e1 (y vs c))
  stop := fun ρ' H' S st s l => by
    obtain ⟨vs, c, r⟩ := w ρ' H' S st s l
    exact ⟨vs, c, by rw [enumL_len]; exact r.length⟩
theorem JW.enmL {a : Addr} {lk : List Lk} {xs : List Vl} (w : WK G ρ H (.lst a) lk xs) : JW G (Ite G.K a) ρ H lk (enumL 0 xs) where
  go := fun ρ' H' S i x st s l e => by
    obtain ⟨vs, c, r⟩ := w ρ' H' S st s l
    obtain ⟨b, e1, rfl⟩ := enumL_at e
    obtain ⟨v0, e2, _⟩ := r.get e1
    refine ⟨⟨vs, v0, c, e2⟩, fun v H2 ⟨T, x, ev, hT, eH, y⟩ => ?_⟩
    subst ev eH
    rw [Int.zero_add]
    exact pair_new s hT (by simp only [VR]) (r.at_ e1 (y vs c))
  stop := fun ρ' H' S st s l => by
    obtain ⟨vs, c, r⟩ := w ρ' H' S st s l
    exact ⟨vs, c, by rw [enumL_len, r.length]; exact Nat.le_refl _⟩
theorem rngL_at : ∀ {n : Nat} {lo : Int} {i : Nat} {x : Vl}, (rngL lo n)[i]? = some x → i < n ∧ x = .int (lo + (i : Nat))
  | 0, _, _, _, e => by simp [rngL] at e
  | n + 1, lo, 0, z, e => by simp [rngL] at e; exact ⟨by omega, by rw [← e]; simp⟩
  | n + 1, lo, i + 1, z, e => by
    simp only [rngL, List.getElem?_cons_succ] at e
    obtain ⟨h1, h2⟩ := rngL_at e
    refine ⟨by omega, ?_⟩
    rw [h2]
    have : lo + 1 + (i : Nat) = lo + ((i + 1 : Nat) : Int) := by omega
    rw [this]
theorem rngL_len : ∀ {n : Nat} {lo : Int}, (rngL lo n).length = n
  | 0, _ => rfl
  | n + 1, lo => by simp only [rngL, List.length_cons, rngL_len]
theorem JW.rng {lo : Int} {n : Nat} : JW G (Itr lo n) ρ H [] (rngL lo n) where
  go := fun ρ' H' S i x st s l e => by
    obtain ⟨h1, rfl⟩ := rngL_at e
    refine ⟨h1, fun v H2 ⟨eH, ev⟩ => ?_⟩
    subst eH ev
    exact ⟨Same.refl _, by simp only [VR]⟩
  stop := fun ρ' H' S st s l => by
    show n ≤ _
    rw [rngL_len]; exact Nat.le_refl _
end

/-! ### sources -/
section
variable (G : Glb) (M : Mach) (W : WX)
def tS (c : Src) : TI := fun σ H R => ∃ ρ η S, Sim G ρ H S ∧ ER G ρ H η σ ∧ PR G W σ ρ H (evS M c η S) (fun ρ1 H1 p _ => ∀ J, JW G J ρ1 H1 p.1 p.2 → R J H1)
end
theorem _root_.L2.PI.imp {X : Cx} {tg e : Expr} {t t' : TI} (h : PI X tg e t) (k : ∀ σ H Q, t' σ H Q → t σ H Q) : PI X tg e t' := ⟨fun pins s σ H Q I q => h.run pins s σ H Q I (k σ H Q q)⟩
section
variable {G : Glb} {M : Mach} {W : WX} {X : Cx} {k : Nat} {tg a b : Expr} {ca cb : E} {p pos tpos : Pos} {elts : List Expr} {kk : Nat}
theorem pi_sqi (g : Good G k X) (ha : PE X a (tE G M W ca)) : PI X tg a (tS G M W (.sq ca)) := (pi_seq ha).imp fun σ H R ⟨ρ, η, S, s, r, h⟩ => ⟨ρ, η, S, s, r, by
  simp only [evS] at h
  refine h.bind.mono fun ρ1 H1 x S1 st s1 h1 v hv => ?_
  obtain ⟨⟨lk, xs⟩, e, h2⟩ := h1.ofO
  obtain ⟨q, rfl, hq, w⟩ := walk_of s1 hv e
  rw [g.K]
  exact ⟨q, rfl, hq, h2.here s1 _ (JW.seq w)⟩⟩
theorem pi_charsi (g : Good G k X) (ha : PE X a (tE G M W ca)) : PI X tg a (tS G M W (.chars ca)) := (pi_seq ha).imp fun σ H R ⟨ρ, η, S, s, r, h⟩ => ⟨ρ, η, S, s, r, by
  simp only [evS] at h
  refine h.bind.mono fun ρ1 H1 x S1 st s1 h1 v hv => ?_
  cases x with
  | str z =>
    simp only [VR] at hv
    subst hv
    rw [g.K]
    exact ⟨.txt z, rfl, ⟨_, rfl⟩, h1.here s1 _ (JW.seq fun ρ' H' S' st _ _ => ⟨_, rfl, VRs.chars z⟩)⟩
  | _ => exact h1.elim⟩
/-- the same first steps, another end -/
theorem PR.re1 {α β γ : Type} {σ : L2.St} {ρ : List Addr} {H : Hp} {r : Res α} {f : α → Hs → Res β} {gg : α → γ} {ok : List Addr → Hp → β → Hs → Prop} {ok' : List Addr → Hp → γ → Hs → Prop} (h : PR G W σ ρ H (r.bind f) ok)
    (kk : ∀ ρ1 H1 x S1, Step ρ H ρ1 H1 → Sim G ρ1 H1 S1 → PR G W σ ρ1 H1 (f x S1) ok → ok' ρ1 H1 (gg x) S1) : PR G W σ ρ H (r.bind fun x S1 => .ok (gg x) S1) ok' := by
  cases r with
  | ok x S => exact fun ρ1 H1 st s => kk ρ1 H1 x S st s (PR.step h st)
  | exc x S => exact h
  | bad => exact h
theorem PR.re2 {α β γ δ : Type} {σ : L2.St} {ρ : List Addr} {H : Hp} {r : Res α} {r2 : α → Hs → Res γ} {f : α → γ → Hs → Res β} {gg : α → γ → δ} {ok : List Addr → Hp → β → Hs → Prop} {ok' : List Addr → Hp → δ → Hs → Prop} (h : PR G W σ ρ H (r.bind fun x S1 => (r2 x S1).bind (f x)) ok)
    (kk : ∀ ρ1 H1 x y S1, Step ρ H ρ1 H1 → Sim G ρ1 H1 S1 → PR G W σ ρ1 H1 (f x y S1) ok → ok' ρ1 H1 (gg x y) S1) : PR G W σ ρ H (r.bind fun x S1 => (r2 x S1).bind fun y S2 => .ok (gg x y) S2) ok' := by
  cases r with
  | ok x S => exact PR.re1 h fun ρ1 H1 y S1 st s q => kk ρ1 H1 x y S1 st s q
  | exc x S => exact h
  | bad => exact h
theorem evs1 {η : Sg} {S : Hs} : evs M (.cons ca .nil) η S = (ev M ca η S).bind fun x S1 => .ok [x] S1 := by simp only [evs, Res.bind]
theorem evs2 {η : Sg} {S : Hs} : evs M (.cons ca (.cons cb .nil)) η S = (ev M ca η S).bind fun x S1 => (ev M cb η S1).bind fun y S2 => .ok [x, y] S2 := by
  simp only [evs]
  cases ev M ca η S with
  | ok x S1 => simp only [Res.bind]; cases ev M cb η S1 <;> rfl
  | exc x S1 => rfl
  | bad => rfl
theorem pi_rng1i (hg : Gl X "range") (hm : X.mg "range" = none) (ha : PA X [a] (tA G M W (.cons ca .nil))) (hs : starEach [a] X.env = [(false, eval a X.env)] := by rfl) : PI X tg (.Call (.Name "range" p) [a] [] pos) (tS G M W (.rng1 ca)) := (pi_range1 hg hm ha hs).imp fun σ H R ⟨ρ, η, S, s, r, h⟩ => ⟨ρ, η, S, s, r, by
  simp only [evS] at h
  rw [evs1]
  refine PR.re1 h fun ρ1 H1 x S1 st s1 h1 vs hv => ?_
  cases x with
  | int j =>
    simp only at h1
    split at h1
    · rename_i hj
      simp only [VRs, VR] at hv
      obtain ⟨v, r, rfl, rfl, rfl⟩ := hv
      exact ⟨j, rfl, hj.1, hj.2, h1.here s1 _ JW.rng⟩
    · exact h1.elim
  | _ => exact h1.elim⟩
theorem pi_rng2i (hg : Gl X "range") (hm : X.mg "range" = none) (ha : PA X [a, b] (tA G M W (.cons ca (.cons cb .nil)))) (hs : starEach [a, b] X.env = [(false, eval a X.env), (false, eval b X.env)] := by rfl) (hs2 : starEach [b] X.env = [(false, eval b X.env)] := by rfl) : PI X tg (.Call (.Name "range" p) [a, b] [] pos) (tS G M W (.rng2 ca cb)) := (pi_range2 hg hm ha hs hs2).imp fun σ H R ⟨ρ, η, S, s, r, h⟩ => ⟨ρ, η, S, s, r, by
  simp only [evS] at h
  rw [evs2]
  refine PR.re2 h fun ρ1 H1 x y S1 st s1 h1 vs hv => ?_
  cases x with
  | int i =>
    cases y with
    | int j =>
      simp only at h1
      split at h1
      · rename_i hj
        simp only [VRs, VR] at hv
        obtain ⟨v, r, rfl, rfl, w, r', rfl, rfl, rfl⟩ := hv
        exact ⟨i, j, rfl, hj, h1.here s1 _ JW.rng⟩
      · exact h1.elim
    | _ => exact h1.elim
  | _ => exact h1.elim⟩
theorem pi_zipi (g : Good G k X) (hg : Gl X "zip") (hm : X.mg "zip" = none) (ha : PA X [a, b] (tA G M W (.cons ca (.cons cb .nil))))
    (hs : starEach [a, b] X.env = (false, eval a X.env) :: starEach [b] X.env := by rfl) (hpl : (backTo pos (starEach [b] X.env)).any (·.1) = false := by rfl) : PI X (.Tuple elts kk tpos) (.Call (.Name "zip" p) [a, b] [] pos) (tS G M W (.zip ca cb)) := (pi_zip2 hg hm ha hs hpl).imp fun σ H R ⟨ρ, η, S, s, r, h⟩ => ⟨ρ, η, S, s, r, by
  simp only [evS] at h
  rw [evs2]
  refine PR.re2 h fun ρ1 H1 x y S1 st s1 h1 vs hv => ?_
  simp only [VRs] at hv
  obtain ⟨v, r, rfl, hv1, w, r', rfl, hv2, rfl⟩ := hv
  obtain ⟨⟨l1, xs⟩, e1, h2⟩ := (PR.bind h1).ofO
  obtain ⟨⟨l2, ys⟩, e2, h3⟩ := (PR.bind (h2.here s1)).ofO
  obtain ⟨q, rfl, ⟨vs, c1⟩, w1⟩ := walkT_of s1 hv1 e1
  obtain ⟨q', rfl, ⟨ws, c2⟩, w2⟩ := walkT_of s1 hv2 e2
  rw [g.K]
  exact ⟨q, q', vs, ws, rfl, c1, c2, (h3.here s1).here s1 _ (JW.zip w1 w2)⟩⟩
theorem pi_enmi (g : Good G k X) (hg : Gl X "enumerate") (hm : X.mg "enumerate" = none) (ha : PA X [a] (tA G M W (.cons ca .nil))) (hs : starEach [a] X.env = [(false, eval a X.env)] := by rfl) : PI X (.Tuple elts kk tpos) (.Call (.Name "enumerate" p) [a] [] pos) (tS G M W (.enm ca 0)) := (pi_enum2 hg hm ha hs).imp fun σ H R ⟨ρ, η, S, s, r, h⟩ => ⟨ρ, η, S, s, r, by
  simp only [evS] at h
  rw [evs1]
  refine PR.re1 h fun ρ1 H1 x S1 st s1 h1 vs hv => ?_
  simp only [VRs] at hv
  obtain ⟨v, r, rfl, hv1, rfl⟩ := hv
  obtain ⟨⟨l1, xs⟩, e1, h2⟩ := (PR.bind h1).ofO
  obtain ⟨q, rfl, ⟨vs, c1⟩, w1⟩ := walk_of s1 hv1 e1
  rw [g.K]; exact ⟨q, vs, rfl, c1, (h2.here s1).here s1 _ (JW.enm w1)⟩⟩
end
end Oz
set_option Elab.async false
set_option linter.all false
set_option maxRecDepth 100000
set_option maxHeartbeats 4000000
set_option autoImplicit false
/-! Oz: targets and statements. -/
namespace Oz
open PySem L2 PyProof.Rows

theorem _root_.L2.PG.imp {X : Cx} {e : Expr} {t t' : TG} (h : PG X e t) (k : ∀ v σ H Q, t' v σ H Q → t v σ H Q) : PG X e t' := ⟨fun pins s σ H v u Q I r q => h.run pins s σ H v u Q I r (k v σ H Q q)⟩
theorem _root_.L2.PGs.imp {X : Cx} {e : List Expr} {t t' : TGs} (h : PGs X e t) (k : ∀ v σ H Q, t' v σ H Q → t v σ H Q) : PGs X e t' := ⟨fun pins s σ H v u Q I r q => h.run pins s σ H v u Q I r (k v σ H Q q)⟩
section
variable {G : Glb} {ρ ρ' : List Addr} {H H' : Hp} {S : Hs}
theorem ER.set {η : Sg} {σ : L2.St} (h : ER G ρ H η σ) (i : Nat) {x : Vl} {v : V} (hv : VR G ρ H x v) : ER G ρ H (η.set i (some x)) (σ.set i (some v)) where
  len := by rw [List.length_set, List.length_set]; exact h.len
  at_ := fun j y e => by
    rw [List.getElem?_set] at e ⊢
    split at e
    · rename_i hij
      split at e
      · rename_i hl
        simp only [Option.some.injEq] at e
        subst e
        rw [if_pos hij, if_pos (by rw [← h.len]; exact hl)]
        exact ⟨v, rfl, hv⟩
      · cases e
    · rename_i hij
      rw [if_neg hij]
      exact h.at_ j y e
theorem ER.set_ {η : Sg} {σ : L2.St} (h : ER G ρ H η σ) (i : Nat) {w : Option V} : ER G ρ H (η.set i none) (σ.set i w) where
  len := by rw [List.length_set, List.length_set]; exact h.len
  at_ := fun j y e => by
    rw [List.getElem?_set] at e ⊢
    split at e
    · split at e <;> simp at e
    · rename_i hij
      rw [if_neg hij]
      exact h.at_ j y e
/-! ### targets -/
mutual
def Tg.slots : Tg → List Nat
  | .nm i => [i]
  | .tp ts => ts.slots
def Tgs.slots : Tgs → List Nat
  | .nil => []
  | .cons t ts => t.slots ++ ts.slots
end
/-- elsewhere as before -/
def Off (is : List Nat) (σ σ' : L2.St) : Prop := σ'.length = σ.length ∧ ∀ i, i ∉ is → σ'[i]? = σ[i]?
theorem Off.trans {is js : List Nat} {σ σ' σ'' : L2.St} (a : Off is σ σ') (b : Off js σ' σ'') : Off (is ++ js) σ σ'' :=
  ⟨b.1.trans a.1, fun i h => (b.2 i fun z => h (List.mem_append_right _ z)).trans (a.2 i fun z => h (List.mem_append_left _ z))⟩
def tG (G : Glb) (t : Tg) : TG := fun v σ H Q => ∃ ρ S η x η1, Sim G ρ H S ∧ ER G ρ H η σ ∧ VR G ρ H x v ∧ bindT t x η = some η1 ∧ ∀ σ', Off t.slots σ σ' → ER G ρ H η1 σ' → Q σ' H
def tGs (G : Glb) (t : Tgs) : TGs := fun vs σ H Q => ∃ ρ S η xs η1, Sim G ρ H S ∧ ER G ρ H η σ ∧ VRs G ρ H xs vs ∧ bindTs t xs η = some η1 ∧ ∀ σ', Off t.slots σ σ' → ER G ρ H η1 σ' → Q σ' H
def Tgs.len : Tgs → Nat
  | .nil => 0
  | .cons _ ts => ts.len + 1
theorem bindTs_len : ∀ {ts : Tgs} {xs : List Vl} {η η1 : Sg}, bindTs ts xs η = some η1 → xs.length = ts.len
  | .nil, [], _, _, _ => rfl
  | .nil, _ :: _, _, _, e => by simp [bindTs] at e
  | .cons t ts, [], _, _, e => by simp [bindTs] at e
  | .cons t ts, x :: xs, η, η1, e => by
    simp only [bindTs] at e
    split at e
    · simp only [List.length_cons, Tgs.len, bindTs_len e]
    · cases e
variable {X : Cx} {k : Nat} {pos : Pos}
theorem pg_nm (g : Good G k X) (i : Nat) {x : Str} (hi : X.N[i]? = some x) (hx : Loc X.env.scope x) (hf : X.fn x = true ∨ X.env.scope.names.lookup x = some .local := by first | exact .inl rfl | exact .inr rfl | assumption) : PG X (.Name x pos) (tG G (.nm i)) := (pg_name g.nd hi hx hf).imp fun v σ H Q ⟨ρ, S, η, x, η1, s, r, hv, hb, q⟩ => by
  simp only [bindT, Option.some.injEq] at hb
  subst hb
  refine q _ ⟨List.length_set, fun j hj => ?_⟩ (r.set i hv)
  rw [List.getElem?_set_ne fun e => hj (by rw [← e]; simp [Tg.slots])]
theorem pgs_n : PGs X [] (tGs G .nil) := pgs_nil.imp fun vs σ H Q ⟨ρ, S, η, xs, η1, s, r, hv, hb, q⟩ => by
  cases xs with
  | nil =>
    simp only [bindTs, Option.some.injEq] at hb
    subst hb
    simp only [VRs] at hv
    exact ⟨hv, q _ ⟨rfl, fun _ _ => rfl⟩ r⟩
  | cons x xs => simp [bindTs] at hb
theorem pgs_c {e : Expr} {es : List Expr} {t : Tg} {ts : Tgs} (h1 : PG X e (tG G t)) (h2 : PGs X es (tGs G ts))
    (hs : (assignEach (e :: es) X.env).map (·.2) = assign e X.env :: (assignEach es X.env).map (·.2) := by rfl) : PGs X (e :: es) (tGs G (.cons t ts)) := (pgs_cons h1 h2 hs).imp fun vs σ H Q ⟨ρ, S, η, xs, η1, s, r, hv, hb, q⟩ => by
  cases xs with
  | nil => simp [bindTs] at hb
  | cons x xs =>
    simp only [VRs] at hv
    obtain ⟨v, rr, rfl, hv1, hv2⟩ := hv
    simp only [bindTs] at hb
    split at hb
    · rename_i η2 hb2
      exact ⟨v, rr, rfl, ρ, S, η, x, η2, s, r, hv1, hb2, fun σ' o1 r' => ⟨ρ, S, η2, xs, η1, s, r', hv2, hb, fun σ'' o2 r'' => q σ'' (by simp only [Tgs.slots]; exact o1.trans o2) r''⟩⟩
    · cases hb
theorem pg_tp (g : Good G k X) {es : List Expr} {kk : Nat} {ts : Tgs} (h : PGs X es (tGs G ts)) (hn : (assignEach es X.env).length = ts.len := by rfl) (hst : (assignEach es X.env).findIdx? (·.1) = none := by rfl) : PG X (.Tuple es kk pos) (tG G (.tp ts)) := by
  refine ⟨fun pins s σ H v u Q I r ⟨ρ, S, η, x, η1, s0, re, hv, hb, q⟩ => ?_⟩
  cases x with
  | tup xs =>
    simp only [bindT] at hb
    simp only [VR] at hv
    obtain ⟨a, vs, rfl, h1, h2⟩ := hv
    exact (pg_tup g.calm h hn hst).run pins s σ H _ u Q I r ⟨a, vs, rfl, by rw [g.K]; exact h1.sq, by rw [← h2.length]; exact bindTs_len hb, ρ, S, η, xs, η1, s0, re, h2, hb, q⟩
  | lst xs =>
    simp only [bindT] at hb
    simp only [VR] at hv
    obtain ⟨a, vs, rfl, h1, h2⟩ := hv
    exact (pg_unl g.calm h hn hst).run pins s σ H _ u Q I r ⟨a, vs, rfl, h1.sq, by rw [← h2.length]; exact bindTs_len hb, ρ, S, η, xs, η1, s0, re, h2, hb, q⟩
  | _ => simp only [bindT] at hb; cases hb
end

/-! ### what a statement comes to -/
section
variable (G : Glb) (M : Mach) (W : WX)
def PQ (ρ : List Addr) (H : Hp) (D : Ends) : Out → Prop
  | .nx η S => ∀ ρ' H' σ', Step ρ H ρ' H' → Sim G ρ' H' S → ER G ρ' H' η σ' → D.nx σ' H'
  | .brk η S => ∀ ρ' H' σ', Step ρ H ρ' H' → Sim G ρ' H' S → ER G ρ' H' η σ' → D.bk σ' H'
  | .cnt η S => ∀ ρ' H' σ', Step ρ H ρ' H' → Sim G ρ' H' S → ER G ρ' H' η σ' → D.ct σ' H'
  | .ret r S => ∀ ρ' H', Step ρ H ρ' H' → Sim G ρ' H' S → okR G H D.rt ρ' H' r S
  | .exc x η S => ∀ ρ' H' σ', Step ρ H ρ' H' → Sim G ρ' H' S → ER G ρ' H' η σ' → XW G W σ' ρ' H' x
  | .bad => False
def tC (c : C) : TS := fun D σ H => ∃ ρ η S, Sim G ρ H S ∧ ER G ρ H η σ ∧ PQ G W ρ H D (exc1 M c η S)
def tCs (c : Cs) : TS := fun D σ H => ∃ ρ η S, Sim G ρ H S ∧ ER G ρ H η σ ∧ PQ G W ρ H D (exec M c η S)
end
section
variable {G : Glb} {M : Mach} {W : WX} {X : Cx} {k : Nat} {pos : Pos} {ρ ρ' : List Addr} {H H' : Hp} {S S' : Hs} {D D' : Ends} {o : Out} {st : Stmt} {rest : List Stmt} {c : C} {cs : Cs}
theorem okR.step {Q : VK} {ρ2 : List Addr} {H2 : Hp} {r : Rv} {T : Hs} (s : Sim G ρ H S) (a : Step ρ H ρ' H') (s' : Sim G ρ' H' S') (h : okR G H Q ρ2 H2 r T) : okR G H' Q ρ2 H2 r T := by
  cases r with
  | val x => exact h
  | frs o => exact fun p hp => h p (none_of s s' a hp)
theorem PQ.step (s : Sim G ρ H S) (a : Step ρ H ρ' H') (s' : Sim G ρ' H' S') (h : PQ G W ρ H D o) : PQ G W ρ' H' D o := by
  cases o with
  | nx η T => exact fun ρ2 H2 σ2 b => h ρ2 H2 σ2 (a.trans b)
  | brk η T => exact fun ρ2 H2 σ2 b => h ρ2 H2 σ2 (a.trans b)
  | cnt η T => exact fun ρ2 H2 σ2 b => h ρ2 H2 σ2 (a.trans b)
  | exc x η T => exact fun ρ2 H2 σ2 b => h ρ2 H2 σ2 (a.trans b)
  | ret r T => exact fun ρ2 H2 b s2 => okR.step s a s' (h ρ2 H2 (a.trans b) s2)
  | bad => exact h
/-- an expression's steps, then what comes of it -/
theorem PQ.out {α : Type} {r : Res α} {η : Sg} {σ : L2.St} {f : α → Hs → Out} (s : Sim G ρ H S) (er : ER G ρ H η σ) (h : PQ G W ρ H D (r.out η f)) : PR G W σ ρ H r fun ρ1 H1 a S1 => PQ G W ρ1 H1 D (f a S1) := by
  cases r with
  | ok a S1 => exact fun ρ1 H1 st s1 => PQ.step s st s1 h
  | exc x S1 => exact fun ρ1 H1 st s1 => h ρ1 H1 σ st s1 (er.step st)
  | bad => exact h
theorem PSs.nil_ : PSs X [] (tCs G M W .nil) := pss_nil.imp fun D σ H ⟨ρ, η, S, s, r, h⟩ => by
  simp only [exec] at h
  exact h ρ H σ (Step.refl _ _) s r
theorem PSs.cons_ (h1 : PS X st (tC G M W c)) (h2 : PSs X rest (tCs G M W cs)) : PSs X (st :: rest) (tCs G M W (.cons c cs)) := (pss_cons h1 h2).imp fun D σ H ⟨ρ, η, S, s, r, h⟩ => ⟨ρ, η, S, s, r, by
  simp only [exec] at h
  cases e : exc1 M c η S with
  | nx η1 S1 =>
    rw [e] at h
    exact fun ρ1 H1 σ1 st s1 r1 => ⟨ρ1, η1, S1, s1, r1, PQ.step s st s1 h⟩
  | _ => rw [e] at h; exact h⟩
theorem ps_passi : PS X (.Pass pos) (tC G M W .pass) := ps_pass.imp fun D σ H ⟨ρ, η, S, s, r, h⟩ => by
  simp only [exc1] at h; exact h ρ H σ (Step.refl _ _) s r
theorem ps_breaki : PS X (.Break pos) (tC G M W .brk) := ps_break.imp fun D σ H ⟨ρ, η, S, s, r, h⟩ => by
  simp only [exc1] at h; exact h ρ H σ (Step.refl _ _) s r
theorem ps_continuei : PS X (.Continue pos) (tC G M W .cnt) := ps_continue.imp fun D σ H ⟨ρ, η, S, s, r, h⟩ => by
  simp only [exc1] at h; exact h ρ H σ (Step.refl _ _) s r
theorem ps_badi : PS X st (tC G M W .bad) := ps_never.imp fun D σ H ⟨ρ, η, S, s, r, h⟩ => by
  simp only [exc1] at h; exact h
theorem ps_doci {x : Str} {j : Nat} {pos' : Pos} : PS X (.Expr (.Constant (.str x) j pos) pos') (tC G M W .pass) := ps_doc.imp fun D σ H ⟨ρ, η, S, s, r, h⟩ => by
  simp only [exc1] at h; exact h ρ H σ (Step.refl _ _) s r
variable {e : Expr} {ce : E} {cf : F} {tg : Expr} {t : Tg}
theorem ps_asgi (he : PE X e (tE G M W ce)) (hg : PG X tg (tG G t)) (hs : swapsWithSole [tg] e pos.line X.env = pure false := by rfl) (hw : swappedStores [tg] e X.env = pure none := by rfl)
    (h1 : (assignEach [tg] X.env).map (·.2) = [assign tg X.env] := by rfl) : PS X (.Assign [tg] e pos) (tC G M W (.asg t ce)) := (ps_asg he hg hs hw h1).imp fun D σ H ⟨ρ, η, S, s, r, h⟩ => ⟨ρ, η, S, s, r, by
  simp only [exc1] at h
  refine (PQ.out s r h).mono fun ρ1 H1 x S1 st s1 h1 v hv => ?_
  split at h1
  · rename_i η1 e1
    exact ⟨ρ1, S1, η, x, η1, s1, r.step st, hv, e1, fun σ' _ r' => h1 ρ1 H1 σ' (Step.refl _ _) s1 r'⟩
  · exact h1.elim⟩
theorem ps_expri (he : PE X e (tE G M W ce)) (hs : swapsWith e none pos.line X.env = pure false := by rfl) : PS X (.Expr e pos) (tC G M W (.ex ce)) := (ps_expr he hs).imp fun D σ H ⟨ρ, η, S, s, r, h⟩ => ⟨ρ, η, S, s, r, by
  simp only [exc1] at h
  refine (PQ.out s r h).mono fun ρ1 H1 x S1 st s1 h1 v hv => ?_
  exact h1 ρ1 H1 σ (Step.refl _ _) s1 (r.step st)⟩
theorem ps_reti (he : PE X e (tE G M W ce)) : PS X (.Return (some e) pos) (tC G M W (.ret ce)) := (ps_ret he).imp fun D σ H ⟨ρ, η, S, s, r, h⟩ => ⟨ρ, η, S, s, r, by
  simp only [exc1] at h
  refine (PQ.out s r h).mono fun ρ1 H1 x S1 st s1 h1 v hv => ?_
  exact h1 ρ1 H1 (Step.refl _ _) s1 v hv⟩
theorem ps_retfi (he : PE X e (tF G M W cf)) : PS X (.Return (some e) pos) (tC G M W (.retf cf)) := (ps_ret he).imp fun D σ H ⟨ρ, η, S, s, r, h⟩ => ⟨ρ, η, S, s, r, by
  simp only [exc1] at h
  cases eo : evf M cf η S with
  | ok o S1 => rw [eo] at h; exact fun ρ1 H1 st s1 => h ρ1 H1 st s1
  | exc x S1 => rw [eo] at h; exact fun ρ1 H1 st s1 => h ρ1 H1 σ st s1 (r.step st)
  | bad => rw [eo] at h; exact h⟩
theorem ps_retNi : PS X (.Return none pos) (tC G M W .retn) := ps_retN.imp fun D σ H ⟨ρ, η, S, s, r, h⟩ => by
  simp only [exc1] at h
  exact h ρ H (Step.refl _ _) s _ (by simp only [VR])
theorem ps_ifi {ct : Expr} {a b : List Stmt} {cc : E} {ca cb : Cs} (hc : PT X ct (tQ G M W cc)) (ha : PSs X a (tCs G M W ca)) (hb : PSs X b (tCs G M W cb)) : PS X (.If ct a b pos) (tC G M W (.ite cc ca cb)) := (ps_if hc ha hb).imp fun D σ H ⟨ρ, η, S, s, r, h⟩ => ⟨ρ, η, S, s, r, by
  simp only [exc1] at h
  refine (PQ.out s r h).mono fun ρ1 H1 x S1 st s1 h1 => ?_
  cases x with
  | bl b =>
    refine ⟨b, rfl, ?_⟩
    cases b with
    | true => exact ⟨ρ1, η, S1, s1, r.step st, h1⟩
    | false => exact ⟨ρ1, η, S1, s1, r.step st, h1⟩
  | _ => exact h1.elim⟩
theorem ps_fori (g : Good G k X) {iter : Expr} {body : List Stmt} {src : Src} {cb : Cs} (hp : PassesOwn (model X.prog X.w) X.A X.env X.xe) (hi : PI X tg iter (tS G M W src)) (hg : PG X tg (tG G t)) (hb : PSs X body (tCs G M W cb))
    (hs : ∀ x, foldedSetIterable iter X.env x = pure x := by intro _; rfl) : PS X (.For tg iter body [] pos) (tC G M W (.for_ t src cb)) := (ps_for hp g.calm hi hg hb hs).imp fun D σ H ⟨ρ, η, S, s, r, h⟩ => ⟨ρ, η, S, s, r, by
  simp only [exc1] at h
  refine (PQ.out s r h).mono fun ρ1 H1 p S1 st s1 h1 J jw => ?_
  obtain ⟨lk, xs⟩ := p
  simp only at h1 jw
  refine ⟨fun i m σ' H' => m = xs.length - i ∧ i ≤ xs.length ∧ ∃ ρ' η' S', Step ρ1 H1 ρ' H' ∧ Sim G ρ' H' S' ∧ ER G ρ' H' η' σ' ∧ PQ G W ρ' H' D (forL (fun η1 S2 => exec M cb η1 S2) t lk (xs.drop i) η' S'), ⟨xs.length, by simp, Nat.zero_le _, ρ1, η, S1, Step.refl _ _, s1, r.step st, by simpa using h1⟩, ?_⟩
  rintro i m σ' H' ⟨rfl, hi, ρ', η', S', st', s', r', h'⟩
  by_cases hl : i < xs.length
  · refine .inr ?_
    rw [List.drop_eq_getElem_cons hl] at h'
    simp only [forL] at h'
    split at h'
    · rename_i l'
      split at h'
      · exact h'.elim
      · rename_i η2 e2
        obtain ⟨hgo, hy⟩ := jw.go ρ' H' S' i xs[i] st'.x s' l' (by simp [hl])
        refine ⟨hgo, fun σ3 H3 => ∃ ρ3 η3 S3, Step ρ1 H1 ρ3 H3 ∧ Sim G ρ3 H3 S3 ∧ ER G ρ3 H3 η3 σ3 ∧ PQ G W ρ3 H3 D (forL (fun η1 S2 => exec M cb η1 S2) t lk (xs.drop (i + 1)) η3 S3), fun σ3 H3 ⟨ρ3, η3, S3, a1, a2, a3, a4⟩ => ⟨xs.length - (i + 1), by omega, rfl, by omega, ρ3, η3, S3, a1, a2, a3, a4⟩, fun v H3 y => ?_⟩
        obtain ⟨sm, hv⟩ := hy v H3 y
        have st3 : Step ρ' H' ρ' H3 := stepSame sm
        have s3 := s'.same sm
        refine ⟨ρ', S', η', xs[i], η2, s3, r'.step st3, hv, e2, fun σ4 _ r4 => ⟨ρ', η2, S', s3, r4, ?_⟩⟩
        have h3 := PQ.step s' st3 s3 h'
        cases eo : exec M cb η2 S' with
        | nx η4 S4 => rw [eo] at h3; exact fun ρ5 H5 σ5 b5 s5 r5 => ⟨ρ5, η4, S4, (st'.trans st3).trans b5, s5, r5, PQ.step s3 b5 s5 h3⟩
        | cnt η4 S4 => rw [eo] at h3; exact fun ρ5 H5 σ5 b5 s5 r5 => ⟨ρ5, η4, S4, (st'.trans st3).trans b5, s5, r5, PQ.step s3 b5 s5 h3⟩
        | brk η4 S4 => rw [eo] at h3; exact h3
        | ret rr T => rw [eo] at h3; exact h3
        | exc x η4 T => rw [eo] at h3; exact h3
        | bad => rw [eo] at h3; exact h3
    · exact h'.elim
  · have e : i = xs.length := by omega
    subst e
    rw [List.drop_length] at h'
    simp only [forL] at h'
    split at h'
    · rename_i l'
      exact .inl ⟨jw.stop ρ' H' S' st'.x s' l', h' ρ' H' σ' (Step.refl _ _) s' r'⟩
    · exact h'.elim⟩
theorem ps_whilei (g : Good G k X) {ct : Expr} {body : List Stmt} {cc : E} {cb : Cs} (hp : PassesOwn (model X.prog X.w) X.A X.env X.xe) (hc : PT X ct (tQ G M W cc)) (hb : PSs X body (tCs G M W cb)) : PS X (.While ct body [] pos) (tC G M W (.whl cc cb)) := (ps_while hp hc hb).imp fun D σ H ⟨ρ, η, S, s, r, h⟩ => by
  simp only [exc1] at h
  refine ⟨fun m σ' H' => ∃ ρ' η' S', Sim G ρ' H' S' ∧ ER G ρ' H' η' σ' ∧ PQ G W ρ' H' D (whlL (fun η1 S2 => ev M cc η1 S2) (fun η1 S2 => exec M cb η1 S2) m η' S'), ⟨M.fuel, ρ, η, S, s, r, h⟩, ?_⟩
  rintro m σ' H' ⟨ρ', η', S', s', r', h'⟩
  cases m with
  | zero => exact h'.elim
  | succ n =>
    simp only [whlL] at h'
    refine ⟨ρ', η', S', s', r', ?_⟩
    cases e : ev M cc η' S' with
    | ok x S1 =>
      rw [e] at h'
      cases x with
      | bl b =>
        cases b with
        | false => exact fun ρ1 H1 st1 s1 => ⟨false, rfl, h' ρ1 H1 σ' st1 s1 (r'.step st1)⟩
        | true =>
          refine fun ρ1 H1 st1 s1 => ⟨true, rfl, fun σ3 H3 => ∃ ρ3 η3 S3, Sim G ρ3 H3 S3 ∧ ER G ρ3 H3 η3 σ3 ∧ PQ G W ρ3 H3 D (whlL (fun η1 S2 => ev M cc η1 S2) (fun η1 S2 => exec M cb η1 S2) n η3 S3), fun σ3 H3 a => ⟨n, Nat.lt_succ_self _, a⟩, ρ1, η', S1, s1, r'.step st1, ?_⟩
          have h3 := PQ.step s' st1 s1 h'
          cases eo : exec M cb η' S1 with
          | nx η4 S4 => simp only [eo] at h3; exact fun ρ5 H5 σ5 b5 s5 r5 => ⟨ρ5, η4, S4, s5, r5, PQ.step s1 b5 s5 h3⟩
          | cnt η4 S4 => simp only [eo] at h3; exact fun ρ5 H5 σ5 b5 s5 r5 => ⟨ρ5, η4, S4, s5, r5, PQ.step s1 b5 s5 h3⟩
          | brk η4 S4 => simp only [eo] at h3; exact h3
          | ret rr T => simp only [eo] at h3; exact h3
          | exc x η4 T => simp only [eo] at h3; exact h3
          | bad => simp only [eo] at h3; exact h3
      | _ => exact h'.elim
    | exc x S1 => rw [e] at h'; exact fun ρ1 H1 st1 s1 => h' ρ1 H1 σ' st1 s1 (r'.step st1)
    | bad => rw [e] at h'; exact h'
/-- two values, one after the other -/
theorem PQ.out2 {α γ δ : Type} {η : Sg} {σ : L2.St} {r : Res α} {r2 : α → Hs → Res γ} {f : α → γ → Hs → Out} {gg : α → γ → δ} {ok' : List Addr → Hp → δ → Hs → Prop} (s : Sim G ρ H S) (er : ER G ρ H η σ) (h : PQ G W ρ H D (r.out η fun x S1 => (r2 x S1).out η (f x)))
    (kk : ∀ ρ1 H1 x y S1, Step ρ H ρ1 H1 → Sim G ρ1 H1 S1 → PQ G W ρ1 H1 D (f x y S1) → ok' ρ1 H1 (gg x y) S1) : PR G W σ ρ H (r.bind fun x S1 => (r2 x S1).bind fun y S2 => .ok (gg x y) S2) ok' := by
  cases r with
  | ok x S1 =>
    simp only [Res.out, Res.bind] at h ⊢
    cases e : r2 x S1 with
    | ok y S2 => rw [e] at h; exact fun ρ1 H1 st s2 => kk ρ1 H1 x y S2 st s2 (PQ.step s st s2 h)
    | exc z S2 => rw [e] at h; exact fun ρ1 H1 st s2 => h ρ1 H1 σ st s2 (er.step st)
    | bad => rw [e] at h; exact h
  | exc z S1 => exact fun ρ1 H1 st s1 => h ρ1 H1 σ st s1 (er.step st)
  | bad => exact h
theorem ps_pari (g : Good G k X) {i j : Nat} {x y : Str} {a b : Expr} {ca cb : E} {px py pt : Pos} {kt k2 : Nat} {pt2 : Pos} (hi : X.N[i]? = some x) (hj : X.N[j]? = some y) (hij : i ≠ j)
    (hx : X.env.scope.names.lookup x = some .local) (hy : X.env.scope.names.lookup y = some .local) (ha : PA X [a, b] (tA G M W (.cons ca (.cons cb .nil))))
    (hw : swappedStores [.Tuple [.Name x px, .Name y py] kt pt] (.Tuple [a, b] k2 pt2) X.env = pure (some [x, y]))
    (hs : swapsWithSole [.Tuple [.Name x px, .Name y py] kt pt] (.Tuple [a, b] k2 pt2) pos.line X.env = pure false := by rfl) :
    PS X (.Assign [.Tuple [.Name x px, .Name y py] kt pt] (.Tuple [a, b] k2 pt2) pos) (tC G M W (.par i j ca cb)) := (ps_par g.calm g.nd hi hj hij hx hy ha hw hs).imp fun D σ H ⟨ρ, η, S, s, r, h⟩ => ⟨ρ, η, S, s, r, by
  simp only [exc1] at h
  rw [evs2]
  refine PQ.out2 s r h fun ρ1 H1 x y S1 st s1 h1 vs hv => ?_
  simp only [VRs] at hv
  obtain ⟨v, r', rfl, hv1, w, r'', rfl, hv2, rfl⟩ := hv
  exact ⟨v, w, rfl, h1 ρ1 H1 _ (Step.refl _ _) s1 (((r.step st).set i hv1).set j hv2)⟩⟩

/-! ### stores into objects -/
theorem Sim.put {r : Nat} {a : Addr} {ho : HO} {o2 : Ob} (s : Sim G ρ H S) (hr : ρ[r]? = some a) (h : OR G ρ (upd H a ho) a o2) : Step ρ H ρ (upd H a ho) ∧ Sim G ρ (upd H a ho) (S.set r o2) := by
  have st : Step ρ H ρ (upd H a ho) := ⟨List.prefix_refl _, fun b o hb hn => by
    rw [upd_ne fun e => hn (by subst e; exact List.mem_of_getElem? hr)]; exact hb, fun b hb => .inl hb⟩
  refine ⟨st, by rw [List.length_set]; exact s.len, s.nd, fun q o b hq hb => ?_⟩
  by_cases e : q = r
  · subst e
    rw [hr] at hb; cases hb
    rw [List.getElem?_set_self (by rw [← s.len]; exact lt_of_get hr)] at hq
    cases hq
    exact h
  · rw [List.getElem?_set_ne (Ne.symm e)] at hq
    have ne : b ≠ a := fun z => e (by
      subst z
      exact (List.getElem?_inj (lt_of_get hb) s.nd).mp (hb.trans hr.symm))
    have k := s.at_ q o b hq hb
    cases o with
    | lst xs => obtain ⟨vs, h1, h2⟩ := k; exact ⟨vs, by rw [upd_ne ne]; exact h1, VRs.step st _ _ h2⟩
    | dct ks xs => obtain ⟨vs, h1, h2, h3⟩ := k; exact ⟨vs, by rw [upd_ne ne]; exact h1, h2, VRs.step st _ _ h3⟩
    | ins c ns xs => obtain ⟨dx, vs, h1, h2, h3⟩ := k; exact ⟨dx, vs, by rw [upd_ne ne]; exact h1, h2, VRs.step st _ _ h3⟩
theorem putF_put {f : Str} {x : Vl} {v : V} (hv : VR G ρ H x v) : ∀ {ns : List Str} {xs : List Vl} {fs : List (Str × V)}, fs.map (·.1) = ns → VRs G ρ H xs (fs.map (·.2)) → (putF f v fs).map (·.1) = (putG ns xs f x).1 ∧ VRs G ρ H (putG ns xs f x).2 ((putF f v fs).map (·.2))
  | [], [], [], _, _ => ⟨rfl, VRs.cons hv VRs.nil⟩
  | [], _ :: _, [], _, h => by simp only [List.map_nil, VRs] at h; obtain ⟨_, _, e, _⟩ := h; cases e
  | [], _, _ :: _, h, _ => by simp at h
  | n :: ns, _, [], h, _ => by simp at h
  | n :: ns, [], _ :: _, _, h => by simp [VRs] at h
  | n :: ns, y :: xs, (m, w) :: fs, h, k => by
    simp only [List.map_cons, List.cons.injEq] at h
    obtain ⟨rfl, h⟩ := h
    simp only [List.map_cons, VRs] at k
    obtain ⟨v', r, e, k1, k2⟩ := k
    cases e
    simp only [putF, putG]
    by_cases q : m = f
    · rw [if_pos q, if_pos q]
      exact ⟨by simp [h], VRs.cons hv k2⟩
    · rw [if_neg q, if_neg q]
      obtain ⟨i1, i2⟩ := putF_put hv h k2
      exact ⟨by simp [i1], VRs.cons k1 i2⟩
theorem ps_fseti (g : Good G k X) {o value : Expr} {f : Str} {ca cv : E} {pos' : Pos} (hC : ∀ c, Cls X.K (G.cl c)) (hf : ∀ c, NoAttr X.K (G.cl c) f) (ha : PE X o (tE G M W ca)) (hv : PE X value (tE G M W cv)) (hs : swapsWith value (some (.Attribute o f pos')) pos.line X.env = pure false) :
    PS X (.Assign [.Attribute o f pos'] value pos) (tC G M W (.fset ca f cv)) := (ps_fld ha hv hs).imp fun D σ H ⟨ρ, η, S, s, r, h⟩ => ⟨ρ, η, S, s, r, by
  simp only [exc1] at h
  refine (PQ.out s r h).mono fun ρ1 H1 y S1 st s1 h1 v hv => ⟨ρ1, η, S1, s1, r.step st, (PQ.out s1 (r.step st) h1).mono fun ρ2 H2 x S2 st2 s2 h2 w hw => ?_⟩
  cases x with
  | ref n =>
    simp only at h2
    split at h2
    · rename_i c ns vs eo
      split at h2
      · rename_i hl
        obtain ⟨a, rfl, hr, dx, fs, e1, e2, e3⟩ := s2.ref hw eo
        obtain ⟨p1, p2⟩ := putF_put (f := f) (hv.step st2) e2 e3
        obtain ⟨st3, s3⟩ := Sim.put (ho := .ins (G.cl c) dx (putF f v fs)) (o2 := .ins c (putG ns vs f y).1 (putG ns vs f y).2) s2 hr (by
          have st' : Step ρ2 H2 ρ2 (upd H2 a (.ins (G.cl c) dx (putF f v fs))) := ⟨List.prefix_refl _, fun b o hb hn => by
            rw [upd_ne fun e => hn (by subst e; exact List.mem_of_getElem? hr)]; exact hb, fun b hb => .inl hb⟩
          exact ⟨dx, _, upd_same, p1, VRs.step st' _ _ p2⟩)
        refine ⟨a, G.cl c, dx, fs, rfl, e1, hC c, hf c, ?_, h2 ρ2 _ σ st3 s3 ((r.step st).step (st2.trans st3))⟩
        rw [← e2, List.length_map] at hl; exact hl
      · exact h2.elim
    · exact h2.elim
  | _ => exact h2.elim⟩
theorem ps_augi (g : Good G k X) {i : Nat} {x : Str} {op : Operator} {pos' : Pos} (hop : op = .Add ∨ op = .Sub) (hi : X.N[i]? = some x) (hx : Loc X.env.scope x) (he : PE X e (tE G M W ce)) (hf : X.fn x = true ∨ X.env.scope.names.lookup x = some .local := by first | exact .inl rfl | exact .inr rfl | assumption) :
    PS X (.AugAssign (.Name x pos') op e pos) (tC G M W (.aug i op ce)) := by
  rcases hop with rfl | rfl
  · refine (ps_aug g.nd hi hx he ip_add hf).imp fun D σ H ⟨ρ, η, S, s, r, h⟩ => ?_
    simp only [exc1] at h
    split at h
    · rename_i x ex
      obtain ⟨v, e1, hv⟩ := r.at_ i x ex
      refine ⟨v, e1, ρ, η, S, s, r, (PQ.out s r h).mono fun ρ1 H1 y S1 st s1 h1 w hw => ?_⟩
      cases x with
      | int a =>
        cases y with
        | int b =>
          simp only [VR] at hv hw
          subst hv hw
          exact ⟨a, b, rfl, rfl, h1 ρ1 H1 _ (Step.refl _ _) s1 ((r.step st).set i (by simp only [VR]))⟩
        | _ => exact h1.elim
      | _ => exact h1.elim
    · exact h.elim
  · refine (ps_aug g.nd hi hx he ip_sub hf).imp fun D σ H ⟨ρ, η, S, s, r, h⟩ => ?_
    simp only [exc1] at h
    split at h
    · rename_i x ex
      obtain ⟨v, e1, hv⟩ := r.at_ i x ex
      refine ⟨v, e1, ρ, η, S, s, r, (PQ.out s r h).mono fun ρ1 H1 y S1 st s1 h1 w hw => ?_⟩
      cases x with
      | int a =>
        cases y with
        | int b =>
          simp only [VR] at hv hw
          subst hv hw
          exact ⟨a, b, rfl, rfl, h1 ρ1 H1 _ (Step.refl _ _) s1 ((r.step st).set i (by simp only [VR]))⟩
        | _ => exact h1.elim
      | _ => exact h1.elim
    · exact h.elim
end
end Oz
set_option Elab.async false
set_option linter.all false
set_option maxRecDepth 100000
set_option maxHeartbeats 4000000
set_option autoImplicit false
/-! Oz: comprehensions. -/
namespace Oz
open PySem L2 PyProof.Rows

/-! ### heaps cut back -/
section
variable {G : Glb} {ρ τ : List Addr} {H H' : Hp} {S T : Hs}
mutual
theorem VR.has : ∀ (x : Vl) (v : V), VR G ρ H x v → x.lim ρ.length = true
  | .non, _, _ | .bl _, _, _ | .int _, _, _ | .str _, _, _ => by simp [Vl.lim]
  | .tup xs, v, h => by simp only [VR] at h; obtain ⟨a, vs, _, _, h2⟩ := h; simp only [Vl.lim]; exact VRs.has xs vs h2
  | .lst xs, v, h => by simp only [VR] at h; obtain ⟨a, vs, _, _, h2⟩ := h; simp only [Vl.lim]; exact VRs.has xs vs h2
  | .dct ks xs, v, h => by simp only [VR] at h; obtain ⟨a, vs, _, _, _, _, h2⟩ := h; simp only [Vl.lim]; exact VRs.has xs _ h2
  | .obj c ns xs, v, h => by simp only [VR] at h; obtain ⟨a, dx, vs, _, _, _, _, h2⟩ := h; simp only [Vl.lim]; exact VRs.has xs _ h2
  | .ref r, v, h => by simp only [VR] at h; obtain ⟨a, _, h2⟩ := h; simp only [Vl.lim, decide_eq_true_eq]; exact lt_of_get h2
theorem VRs.has : ∀ (xs : List Vl) (vs : List V), VRs G ρ H xs vs → limAll ρ.length xs = true
  | [], _, _ => by simp [limAll]
  | x :: xs, vs, h => by
    simp only [VRs] at h
    obtain ⟨v, r, _, h1, h2⟩ := h
    simp only [limAll, Bool.and_eq_true]
    exact ⟨VR.has x v h1, VRs.has xs r h2⟩
end
mutual
theorem VR.less : ∀ (x : Vl) (v : V), VR G (ρ ++ τ) H x v → x.lim ρ.length = true → VR G ρ H x v
  | .non, _, h, _ | .bl _, _, h, _ | .int _, _, h, _ | .str _, _, h, _ => by simpa only [VR] using h
  | .tup xs, v, h, l => by
    simp only [VR] at h ⊢
    simp only [Vl.lim] at l
    obtain ⟨a, vs, e, h1, h2⟩ := h
    exact ⟨a, vs, e, h1.imp (fun q => ⟨q.1, fun z => q.2 (List.mem_append_left _ z)⟩) id, VRs.less xs vs h2 l⟩
  | .lst xs, v, h, l => by
    simp only [VR] at h ⊢
    simp only [Vl.lim] at l
    obtain ⟨a, vs, e, h1, h2⟩ := h
    exact ⟨a, vs, e, ⟨h1.1, fun z => h1.2 (List.mem_append_left _ z)⟩, VRs.less xs vs h2 l⟩
  | .dct ks xs, v, h, l => by
    simp only [VR] at h ⊢
    simp only [Vl.lim] at l
    obtain ⟨a, vs, e, h1, n, h2, h3⟩ := h
    exact ⟨a, vs, e, h1, fun z => n (List.mem_append_left _ z), h2, VRs.less xs _ h3 l⟩
  | .obj c ns xs, v, h, l => by
    simp only [VR] at h ⊢
    simp only [Vl.lim] at l
    obtain ⟨a, dx, vs, e, h1, n, h2, h3⟩ := h
    exact ⟨a, dx, vs, e, h1, fun z => n (List.mem_append_left _ z), h2, VRs.less xs _ h3 l⟩
  | .ref r, v, h, l => by
    simp only [VR] at h ⊢
    simp only [Vl.lim, decide_eq_true_eq] at l
    obtain ⟨a, e, h1⟩ := h
    exact ⟨a, e, by rw [← h1, List.getElem?_append_left l]⟩
theorem VRs.less : ∀ (xs : List Vl) (vs : List V), VRs G (ρ ++ τ) H xs vs → limAll ρ.length xs = true → VRs G ρ H xs vs
  | [], _, h, _ => by simpa only [VRs] using h
  | x :: xs, vs, h, l => by
    simp only [VRs] at h ⊢
    simp only [limAll, Bool.and_eq_true] at l
    obtain ⟨v, r, e, h1, h2⟩ := h
    exact ⟨v, r, e, VR.less x v h1 l.1, VRs.less xs r h2 l.2⟩
end
theorem OR.has {a : Addr} {o : Ob} (h : OR G ρ H a o) : o.lim ρ.length = true := by
  cases o with
  | lst xs => obtain ⟨vs, _, h2⟩ := h; exact VRs.has _ _ h2
  | dct ks xs => obtain ⟨vs, _, _, h2⟩ := h; exact VRs.has _ _ h2
  | ins c ns xs => obtain ⟨dx, vs, _, _, h2⟩ := h; exact VRs.has _ _ h2
theorem OR.less {a : Addr} {o : Ob} (h : OR G (ρ ++ τ) H a o) (l : o.lim ρ.length = true) : OR G ρ H a o := by
  cases o with
  | lst xs => obtain ⟨vs, h1, h2⟩ := h; exact ⟨vs, h1, VRs.less _ _ h2 l⟩
  | dct ks xs => obtain ⟨vs, h1, h2, h3⟩ := h; exact ⟨vs, h1, h2, VRs.less _ _ h3 l⟩
  | ins c ns xs => obtain ⟨dx, vs, h1, h2, h3⟩ := h; exact ⟨dx, vs, h1, h2, VRs.less _ _ h3 l⟩
/-- the older things alone, where none of them leads to a newer one -/
theorem Sim.cut (s : Sim G (ρ ++ τ) H (S ++ T)) (hl : ρ.length = S.length) (hS : ∀ (r : Nat) (o : Ob), S[r]? = some o → o.lim S.length = true) : Sim G ρ H S where
  len := hl
  nd := (List.nodup_append.mp s.nd).1
  at_ := fun r o a h1 h2 => by
    refine OR.less (s.at_ r o a ?_ ?_) (by rw [hl]; exact hS r o h1)
    · rw [List.getElem?_append_left (lt_of_get h1)]; exact h1
    · rw [List.getElem?_append_left (lt_of_get h2)]; exact h2
theorem Sim.new {p : Addr} {u : HO} {o : Ob} (s : Sim G ρ H S) (hp : H p = none) (ho : OR G (ρ ++ [p]) (upd H p u) p o) : Sim G (ρ ++ [p]) (upd H p u) (S ++ [o]) := by
  have sm : Same H (upd H p u) := same_new hp
  have n : p ∉ ρ := s.free hp
  have st1 : Step ρ H (ρ ++ [p]) (upd H p u) := (stepSame sm).one hp
  refine ⟨by simp [s.len], ?_, fun r o' a h1 h2 => ?_⟩
  · rw [List.nodup_append]
    exact ⟨s.nd, by simp, fun x hx y hy => by
      have : y = p := by simpa using hy
      subst this
      exact fun e => n (e ▸ hx)⟩
  · by_cases hr : r < S.length
    · rw [List.getElem?_append_left hr] at h1
      rw [List.getElem?_append_left (by rw [s.len]; exact hr)] at h2
      exact (s.at_ r o' a h1 h2).same st1 sm
    · have hr2 : r = S.length := by
        have := lt_of_get h1
        simp at this
        omega
      subst hr2
      have e1 : o' = o := by simpa using h1.symm
      have e2 : a = p := by rw [← s.len] at h2; simpa using h2.symm
      subst e1 e2
      exact ho
theorem Sim.lims (s : Sim G ρ H S) (r : Nat) (o : Ob) (h : S[r]? = some o) : o.lim S.length = true := by
  have hr : r < ρ.length := by rw [s.len]; exact lt_of_get h
  rw [← s.len]
  exact (s.at_ r o ρ[r] h (List.getElem?_eq_getElem hr)).has
end

/-! ### a comprehension's list -/
section
variable {G : Glb} {M : Mach} {W : WX} {X : Cx} {k : Nat}
abbrev WF : WX := fun _ _ _ _ => False
theorem Good.blk (g : Good G k X) (s : Shared) (H : Hp) (scope : Scope) (ce : Env) (fp : List Addr) : Good G k (X.blk s H scope ce fp) := ⟨g.K, g.nd, g.calm, g.room, g.grd⟩
theorem wipe_get {σ : L2.St} {i : Nat} : ∀ {vs : List Nat}, (wipe σ vs)[i]? = if i ∈ vs then σ[i]?.map (fun _ => none) else σ[i]?
  | [] => by simp [wipe]
  | v :: vs => by
    unfold wipe
    rw [List.getElem?_set, wipe_length]
    by_cases e : v = i
    · subst e
      rw [if_pos rfl, if_pos List.mem_cons_self]
      by_cases l : v < σ.length
      · rw [if_pos l, List.getElem?_eq_getElem l]; rfl
      · rw [if_neg l, List.getElem?_eq_none (by omega)]; rfl
    · rw [if_neg e, wipe_get]
      by_cases m : i ∈ vs
      · rw [if_pos m, if_pos (List.mem_cons_of_mem _ m)]
      · rw [if_neg m, if_neg (by simp [m, Ne.symm e])]
theorem wipe_off {σ σ' : L2.St} {is vs : List Nat} (h : Off is (wipe σ vs) σ') (hs : ∀ i ∈ is, i ∈ vs) : wipe σ' vs = wipe σ vs := by
  apply List.ext_getElem?
  intro i
  rw [wipe_get, wipe_get]
  by_cases m : i ∈ vs
  · rw [if_pos m, if_pos m]
    have hl : σ'.length = σ.length := h.1.trans (wipe_length σ vs)
    by_cases l : i < σ.length
    · rw [List.getElem?_eq_getElem l, List.getElem?_eq_getElem (by omega)]; rfl
    · rw [List.getElem?_eq_none (by omega), List.getElem?_eq_none (by omega)]
  · rw [if_neg m, if_neg m, h.2 i fun z => m (hs i z), wipe_get, if_neg m]
theorem ER.wipe {ρ : List Addr} {H : Hp} {η : Sg} {σ : L2.St} (h : ER G ρ H η σ) : ∀ (vs : List Nat), ER G ρ H (wipeG η vs) (wipe σ vs)
  | [] => h
  | v :: vs => (h.wipe vs).set_ v
/-- the tests of a clause -/
def tAll (G : Glb) (M : Mach) (W : WX) (c : Es) : TT := fun σ H Q => ∃ ρ η S, Sim G ρ H S ∧ ER G ρ H η σ ∧ PR G W σ ρ H (evAll M c η S) (fun _ H' b _ => Q b H')
theorem _root_.L2.PTs.imp {X : Cx} {e : List Expr} {t t' : TT} (h : PTs X e t) (k : ∀ σ H Q, t' σ H Q → t σ H Q) : PTs X e t' := ⟨fun pins s σ H Q I q => h.run pins s σ H Q I (k σ H Q q)⟩
theorem pts_no : PTs X [] (tAll G M W .nil) := pts_nil.imp fun σ H Q ⟨ρ, η, S, s, r, h⟩ => by
  simp only [evAll] at h
  exact h.here s
theorem pts_c {e : Expr} {c : E} (h : PT X e (tQ G M W c)) : PTs X [e] (tAll G M W (.cons c .nil)) := (pts_one h).imp fun σ H Q ⟨ρ, η, S, s, r, h⟩ => ⟨ρ, η, S, s, r, by
  simp only [evAll] at h
  refine (PR.bind h).mono fun ρ1 H1 x S1 st s1 h1 => ?_
  cases x with
  | bl b => cases b <;> exact ⟨_, rfl, h1.here s1⟩
  | _ => exact h1.elim⟩
theorem limAll_app {n : Nat} {y : Vl} : ∀ {xs : List Vl}, limAll n xs = true → y.lim n = true → limAll n (xs ++ [y]) = true
  | [], _, h => by simp [limAll, h]
  | x :: xs, h, k => by
    simp only [limAll, Bool.and_eq_true] at h
    show (Vl.lim n x && limAll n (xs ++ [y])) = true
    rw [h.1, limAll_app h.2 k]; rfl
theorem pre_eq {α : Type} {xs ys : List α} (h : xs <+: ys) (l : ys.length = xs.length) : ys = xs := (List.IsPrefix.eq_of_length h l.symm).symm
theorem lc_tF {own : List Nat} {ce : E} {t : Tg} {src : Src} {ci : Es} (ht : ∀ i ∈ t.slots, i ∈ own) (σ : L2.St) (H : Hp) (Q : VK) (h : tF G M W (.comp own ce t src ci) σ H Q) : tLc (tS G M W src) (tG G t) (tAll G M WF ci) (tE G M WF ce) own σ H Q := by
  obtain ⟨ρ, η, S, s, r, h⟩ := h
  refine ⟨ρ, η, S, s, r, ?_⟩
  simp only [evf] at h
  refine (PR.bind h).mono fun ρ1 H1 p S1 st s1 h1 J jw D hD => ?_
  obtain ⟨lk, xs⟩ := p
  simp only at h1 jw
  have hD0 : H D = none := none_of s s1 st hD
  have hDn : D ∉ ρ1 := s1.free hD
  have hl1 := s1.len
  -- the start
  have sm : Same H1 (upd H1 D (.lst [])) := same_new hD
  have stD : Step ρ1 H1 (ρ1 ++ [D]) (upd H1 D (.lst [])) := (stepSame sm).one hD
  have simD : Sim G (ρ1 ++ [D]) (upd H1 D (.lst [])) (S1 ++ [.lst []]) := s1.new hD ⟨[], upd_same, VRs.nil⟩
  have rD : (ρ1 ++ [D])[S1.length]? = some D := by rw [← hl1]; simp
  generalize hstep : (fun (x : Vl) (S2 : Hs) => match bindT t x (wipeG η own) with
      | none => (Res.bad : Res (Option Vl))
      | some η1 => (evAll M ci η1 S2).bind fun b S3 => if b = true then (ev M ce η1 S3).bind fun y S4 => .ok (some y) S4 else .ok none S3) = step at h1
  refine ⟨fun i m H' => m = xs.length - i ∧ i ≤ xs.length ∧ ∃ acc, Step ρ1 H1 (ρ1 ++ [D]) H' ∧ Sim G (ρ1 ++ [D]) H' (S1 ++ [.lst acc]) ∧ PR G W σ ρ1 H1 ((compL step lk (xs.drop i) acc S1).bind fun ys S2 => .ok (.lst ys) S2) (okF G H Q) ∧ limAll S1.length acc = true, ⟨xs.length, by simp, Nat.zero_le _, [], stD, simD, by simpa using h1, by simp [limAll]⟩, ?_⟩
  rintro i m H' ⟨rfl, hi, acc, st', s', h', la⟩
  by_cases hl : i < xs.length
  · refine .inr ?_
    rw [List.drop_eq_getElem_cons hl] at h'
    simp only [compL] at h'
    split at h'
    · rename_i l'
      have l2 : lockd lk (S1 ++ [.lst acc]) := fun p hp => by
        have e := l' p hp
        rw [List.getElem?_append_left (lt_of_get e)]; exact e
      obtain ⟨hgo, hy⟩ := jw.go _ H' _ i xs[i] (Step.x st') s' l2 (by simp [hl])
      refine ⟨hgo, fun H3 => ∃ acc, Step ρ1 H1 (ρ1 ++ [D]) H3 ∧ Sim G (ρ1 ++ [D]) H3 (S1 ++ [.lst acc]) ∧ PR G W σ ρ1 H1 ((compL step lk (xs.drop (i + 1)) acc S1).bind fun ys S2 => .ok (.lst ys) S2) (okF G H Q) ∧ limAll S1.length acc = true, fun H3 a => ⟨xs.length - (i + 1), by omega, rfl, by omega, a⟩, fun v H3 y => ?_⟩
      obtain ⟨sm3, hv⟩ := hy v H3 y
      have st3 : Step (ρ1 ++ [D]) H' (ρ1 ++ [D]) H3 := stepSame sm3
      have s3 := s'.same sm3
      have est : step xs[i] (S1 ++ [.lst acc]) = match bindT t xs[i] (wipeG η own) with
          | none => (Res.bad : Res (Option Vl))
          | some η1 => (evAll M ci η1 (S1 ++ [.lst acc])).bind fun b S3 => if b = true then (ev M ce η1 S3).bind fun y S4 => .ok (some y) S4 else .ok none S3 := by rw [← hstep]
      cases eb : bindT t xs[i] (wipeG η own) with
      | none => rw [est, eb] at h'; exact h'.elim
      | some η2 =>
        rw [est, eb] at h'
        simp only at h'
        have er3 : ER G (ρ1 ++ [D]) H3 (wipeG η own) (wipe σ own) := (((r.step st).step st').step st3).wipe own
        refine ⟨ρ1 ++ [D], S1 ++ [.lst acc], wipeG η own, xs[i], η2, s3, er3, hv, eb, fun σ4 of4 r4 => ⟨wipe_off of4 ht, ρ1 ++ [D], η2, S1 ++ [.lst acc], s3, r4, ?_⟩⟩
        cases ea : evAll M ci η2 (S1 ++ [.lst acc]) with
        | bad => rw [ea] at h'; exact h'.elim
        | exc x S3 => rw [ea] at h'; exact h'.elim
        | ok b S3 =>
          rw [ea] at h'
          simp only [Res.bind] at h'
          refine fun ρ5 H5 st5 s5 => ?_
          cases b with
          | false =>
            simp only [Bool.false_eq_true, if_false] at h' ⊢
            by_cases c5 : S3 = S1 ++ [.lst acc] ∧ acc.length < sizeLine
            · rw [if_pos c5] at h'
              obtain ⟨rfl, _⟩ := c5
              have e5 : ρ5 = ρ1 ++ [D] := pre_eq st5.pre (by rw [s5.len, ← s3.len])
              subst e5
              exact ⟨acc, (st'.trans st3).trans st5, s5, h', la⟩
            · rw [if_neg c5] at h'; exact h'.elim
          | true =>
            simp only [if_true] at h' ⊢
            refine ⟨ρ5, η2, S3, s5, r4.step st5, ?_⟩
            cases ev6 : ev M ce η2 S3 with
            | bad => rw [ev6] at h'; exact h'.elim
            | exc x S4 => rw [ev6] at h'; exact h'.elim
            | ok y S4 =>
              rw [ev6] at h'
              simp only [Res.bind] at h'
              refine fun ρ7 H7 st7 s7 w hw => ?_
              by_cases c7 : S4 = S1 ++ [.lst acc] ∧ acc.length < sizeLine
              · rw [if_pos c7] at h'
                obtain ⟨rfl, hz⟩ := c7
                have e7 : ρ7 = ρ1 ++ [D] := pre_eq (st5.trans st7).pre (by rw [s7.len, ← s3.len])
                subst e7
                by_cases ly : y.lim S1.length = true
                · rw [if_pos ly] at h'
                  obtain ⟨vs, g1, g2⟩ := s7.at_ S1.length (.lst acc) D (by simp) rD
                  have stE : Step (ρ1 ++ [D]) H7 (ρ1 ++ [D]) (upd H7 D (.lst (vs ++ [w]))) := ⟨List.prefix_refl _, fun b o hb hn => by
                    rw [upd_ne fun e => hn (by subst e; simp)]; exact hb, fun b hb => .inl hb⟩
                  obtain ⟨st8, s8⟩ := Sim.put (ho := .lst (vs ++ [w])) (o2 := .lst (acc ++ [y])) s7 rD ⟨vs ++ [w], upd_same, VRs.step stE _ _ (g2.append (VRs.cons hw VRs.nil))⟩
                  refine ⟨vs, g1, by rw [← g2.length]; exact hz, acc ++ [y], (((st'.trans st3).trans st5).trans st7).trans st8, by simpa using s8, h', ?_⟩
                  exact limAll_app la ly
                · rw [if_neg ly] at h'; exact h'.elim
              · rw [if_neg c7] at h'; exact h'.elim
    · exact h'.elim
  · have e : i = xs.length := by omega
    subst e
    rw [List.drop_length] at h'
    simp only [compL] at h'
    split at h'
    · rename_i l'
      have l2 : lockd lk (S1 ++ [.lst acc]) := fun p hp => by
        have e := l' p hp
        rw [List.getElem?_append_left (lt_of_get e)]; exact e
      refine .inl ⟨jw.stop _ H' _ (Step.x st') s' l2, ?_⟩
      have sc : Sim G ρ1 H' S1 := s'.cut hl1 s1.lims
      have stc : Step ρ1 H1 ρ1 H' := ⟨List.prefix_refl _, st'.keep, fun a ha => .inl ha⟩
      have fin : okF G H Q ρ1 H' (.lst acc) S1 := h' ρ1 H' stc sc
      exact fin D hD0 hDn (OR.less (s'.at_ S1.length (.lst acc) D (by simp) rD) (by rw [hl1]; exact la)) s'
    · exact h'.elim
section
variable {elt tg iter : Expr} {ifs : List Expr} {scope : Scope} {own : List (Str × Nat)} {pos : Pos} {ce : E} {t : Tg} {src : Src} {ci : Es}
theorem pf_comp (g : Good G k X) (hsl : ∀ i ∈ t.slots, i ∈ own.map (·.2)) (hi : PI X tg iter (tS G M W src)) (ok : BlkOk X.N X.env.scope scope own)
    (hg : ∀ (s : Shared) (H : Hp) (C : Addr) (cl : List (Str × Addr)) (fp : List Addr), PG (X.blk s H scope (compEnvC scope cl C X.env) fp) tg (tG G t)) (ht : ∀ (s : Shared) (H : Hp) (C : Addr) (cl : List (Str × Addr)) (fp : List Addr), PTs (X.blk s H scope (compEnvC scope cl C X.env) fp) ifs (tAll G M WF ci))
    (he : ∀ (s : Shared) (H : Hp) (C : Addr) (cl : List (Str × Addr)) (fp : List Addr), PE (X.blk s H scope (compEnvC scope cl C X.env) fp) elt (tE G M WF ce)) (hs : ∀ x, foldedSetIterable iter X.env x = pure x := by intro _; rfl) :
    PE X (.ListComp elt [⟨tg, iter, ifs, 0⟩] scope pos) (tF G M W (.comp (own.map (·.2)) ce t src ci)) := (pe_lc g.calm g.nd hi ok hg ht he hs).imp fun σ H Q h => lc_tF hsl σ H Q h
/-- name = [..], the name a local, on one row -/
theorem ps_setLci (g : Good G k X) {i : Nat} {y : Str} {py spos : Pos} (hy : X.N[i]? = some y) (hyl : X.env.scope.names.lookup y = some .local)
    (hsw : swapsWith (.ListComp elt [⟨tg, iter, ifs, 0⟩] scope pos) (some (.Name y py)) spos.line X.env = pure true) (hsl : ∀ i ∈ t.slots, i ∈ own.map (·.2)) (hi : PI X tg iter (tS G M W src)) (ok : BlkOk X.N X.env.scope scope own)
    (hg : ∀ (s : Shared) (H : Hp) (C : Addr) (cl : List (Str × Addr)) (fp : List Addr), PG (X.blk s H scope (compEnvC scope cl C X.env) fp) tg (tG G t)) (ht : ∀ (s : Shared) (H : Hp) (C : Addr) (cl : List (Str × Addr)) (fp : List Addr), PTs (X.blk s H scope (compEnvC scope cl C X.env) fp) ifs (tAll G M WF ci))
    (he : ∀ (s : Shared) (H : Hp) (C : Addr) (cl : List (Str × Addr)) (fp : List Addr), PE (X.blk s H scope (compEnvC scope cl C X.env) fp) elt (tE G M WF ce)) (hs : ∀ x, foldedSetIterable iter X.env x = pure x := by intro _; rfl) (fr : Bool) :
    PS X (.Assign [.Name y py] (.ListComp elt [⟨tg, iter, ifs, 0⟩] scope pos) spos) (tC G M W (.asg (.nm i) (if fr then .inl (.comp (own.map (·.2)) ce t src ci) else .alc (.comp (own.map (·.2)) ce t src ci)))) := (ps_setLc g.calm g.nd hy hyl hsw hi ok hg ht he hs).imp fun D σ H ⟨ρ, η, S, s, r, h⟩ => by
  refine lc_tF hsl σ H _ ⟨ρ, η, S, s, r, ?_⟩
  cases fr with
  | true =>
    simp only [if_true, exc1, ev, bindT] at h
    cases eo : evf M (.comp (own.map (·.2)) ce t src ci) η S with
    | ok o S1 =>
      rw [eo] at h
      exact fun ρ1 H1 st s1 p hp hn ho hs => h ρ1 H1 _ st s1 ((r.step st).set i (ho.inl hn))
    | exc x S1 => rw [eo] at h; exact fun ρ1 H1 st s1 => h ρ1 H1 σ st s1 (r.step st)
    | bad => rw [eo] at h; exact h
  | false =>
    simp only [Bool.false_eq_true, if_false, exc1, ev, bindT] at h
    cases eo : evf M (.comp (own.map (·.2)) ce t src ci) η S with
    | ok o S1 =>
      rw [eo] at h
      exact fun ρ1 H1 st s1 p hp hn ho hs => h (ρ1 ++ [p]) H1 _ (st.one hp) hs ((r.step (st.one hp)).set i (by simp only [VR]; exact ⟨p, rfl, by rw [← s1.len]; simp⟩))
    | exc x S1 => rw [eo] at h; exact fun ρ1 H1 st s1 => h ρ1 H1 σ st s1 (r.step st)
    | bad => rw [eo] at h; exact h
end
end
end Oz
set_option Elab.async false
set_option linter.all false
set_option maxRecDepth 100000
set_option maxHeartbeats 4000000
set_option autoImplicit false
/-! Oz: sets of texts: made, added to, sorted. -/
namespace Oz
open PySem L2 PyProof.Rows PySem.Froz

theorem tail_perm (ep : Nat) (es : Array (Int × Value)) (t : SetTable) (d : Bool) : (tailTx ep es t d).1.toList.Perm es.toList := by
  unfold tailTx
  split
  · exact relayAll_perm _ _ _
  · exact .refl _
theorem tail_ris (ep : Nat) (es : Array (Int × Value)) (t : SetTable) (d : Bool) (r : Ris t.place.toList) : Ris (tailTx ep es t d).2.2.place.toList := by
  unfold tailTx
  split
  · exact relayAll_ris _ _ _
  · exact r
theorem tail_led (ep : Nat) (es : Array (Int × Value)) (t : SetTable) (d : Bool) : (tailTx ep es t d).2.2.led = t.led := by
  unfold tailTx
  split
  · exact relayAll_led _ _ _
  · rfl
theorem addTx_perm (h : Int) (v : Value) (D : SD) : (addTx h v D).1.toList.Perm (D.1.toList ++ [(h, v)]) := by
  have p1 := layNew_perm D.2.2 D.1 h v
  rw [Array.toList_push] at p1
  exact (tail_perm _ _ _ _).trans p1
theorem addTx_ris (h : Int) (v : Value) (D : SD) (r : Ris D.2.2.place.toList) : Ris (addTx h v D).2.2.place.toList := by
  refine tail_ris _ _ _ _ ?_
  have r1 := layNew_ris D.2.2 D.1 h v r
  split <;> exact r1
theorem addTx_led (h : Int) (v : Value) (D : SD) : (addTx h v D).2.2.led = D.2.2.led := by
  refine (tail_led _ _ _ _).trans ?_
  have r1 := layNew_led D.2.2 D.1 h v
  split <;> exact r1
/-- the texts l, each once, are the set at a -/
def SetT (P : Program) (w : World) (h : Heap) (a : Addr) (l : List Str) : Prop :=
  ∃ D : SD, h.get? a = some (sObj "set" D) ∧ TxOk P w D l ∧ (D.1.toList.map fun e => strOf e.2).Perm l ∧ (∀ e ∈ D.1.toList, ∃ x t, e.2 = .str x t) ∧ Ris D.2.2.place.toList ∧ (w.params.followText "set-order" = true ∨ D.2.2.led = true)
theorem SetT.at {P : Program} {w : World} {h h' : Heap} {a : Addr} {l : List Str} (R : SetT P w h a l) (k : ∀ o, h.get? a = some o → h'.get? a = some o) : SetT P w h' a l := by
  obtain ⟨D, ho, r⟩ := R
  exact ⟨D, k _ ho, r⟩
def addL (k : Str) (l : List Str) : List Str := if k ∈ l then l else k :: l
theorem addL_len (k : Str) (l : List Str) : (addL k l).length ≤ l.length + 1 := by unfold addL; split <;> simp
abbrev setNew (w : World) : Obj := { cls := .type "set", dict := none, data := .set #[] 0 (.fresh 0 0 (!w.params.followText "set-order")) }
theorem setT_nil {P : Program} {w : World} {h : Heap} {a : Addr} (ho : h.get? a = some (setNew w)) : SetT P w h a [] :=
  ⟨(#[], 0, .fresh 0 0 (!w.params.followText "set-order")), ho, TxOk.nil (by rfl), .nil, fun e he => by simp at he, List.Pairwise.nil, by
    show _ ∨ (!w.params.followText "set-order") = true
    cases w.params.followText "set-order"
    · exact .inr rfl
    · exact .inl rfl⟩
section
variable {P : Program} {w : World} {A : Around} {E : Value → Shared → Prop} {s : Shared} {a : Addr} {l : List Str}
theorem setT_hashed {k : Str} {u : Tok} {Q : Bool → Shared → Prop} (R : SetT P w s.heap a l) (room : l.length + 1 < scanBound)
    (hQ : ∀ b h', Heap.SameBut a s.heap h' → SetT P w h' a (addL k l) → Q b { s with heap := h' }) : wpAny (model P w) A (setAddHashed a (.str k u) (hashStr w k)) Q E s := by
  obtain ⟨D, ho, F, pm, st, ri, ld⟩ := R
  by_cases hk : k ∈ l
  · have el : addL k l = l := if_pos hk
    obtain ⟨es, ep, t⟩ := D
    have hd : (sObj "set" (es, ep, t)).data = .set es ep t := rfl
    have hz : es.size = l.length := F.sz
    have hb0 : es.size < scanBound := by omega
    have hel : ElemsOf (strKind P w) es.toList := F.el
    have hft : t.fits es.size = true := F.fit
    have hkey : (strKind P w).is k (.str k u) = true := is_str k u
    unfold setAddHashed setAddHashedIn
    refine wpAny_holding (wpAny_bind (wpAny_setState_of ho hd hft ?_))
    dsimp only
    rw [byScan_of rfl hb0 hel]
    simp only [↓reduceIte]
    unfold setAddByScan
    refine wpAny_bind (wpAny_bind (wpAny_rule (wpAny_bind (wpAny_setScan_of (knd := strKind P w) (k := k) hkey ho hd hft hel ?_))))
    cases hf : List.findIdx? (fun e => (strKind P w).is k e.2) es.toList with
    | none =>
      obtain ⟨e, he, q⟩ := (F.mem k).mp hk
      have c := List.findIdx?_eq_none_iff.mp hf e he
      rw [q] at c; cases c
    | some j =>
      dsimp only
      exact wpAny_pure (wpAny_pure (hQ _ s.heap (Heap.SameBut.refl a s.heap) (by rw [el]; exact ⟨(es, ep, t), ho, F, pm, st, ri, ld⟩)))
  · have el : addL k l = k :: l := if_neg hk
    refine add_x ho F hk room (hQ true _ (Heap.SameBut.update s.heap a _) ?_)
    rw [el]
    have pa := addTx_perm (hashStr w k) (.str k u) D
    refine ⟨addTx (hashStr w k) (.str k u) D, get_upd _ ho rfl, add_ok u F, ?_, fun e he => ?_, addTx_ris _ _ _ ri, ld.imp id fun z => by rw [addTx_led]; exact z⟩
    · refine (pa.map _).trans ?_
      rw [List.map_append]
      exact (List.perm_append_singleton _ _).trans (pm.cons k)
    · rcases List.mem_append.mp (pa.mem_iff.mp he) with q | q
      · exact st e q
      · rw [List.mem_singleton.mp q]; exact ⟨k, u, rfl⟩
theorem SetT.typeIs (R : SetT P w s.heap a l) : s.TypeIs (.ref a) "set" := by
  obtain ⟨D, ho, _⟩ := R
  exact ⟨_, ho, rfl⟩
/-- found.add(k) -/
theorem setT_add {k : Str} {u : Tok} {Q : Value → Shared → Prop} (R : SetT P w s.heap a l) (room : l.length + 1 < scanBound)
    (hQ : ∀ h', Heap.SameBut a s.heap h' → SetT P w h' a (addL k l) → Q .none { s with heap := h', toks := s.toks + 1 }) : wpAny (model P w) A (call (.builtin "set.add") [.ref a, .str k u]) Q E s := by
  refine wpAny_call_entry F.slot_set_add R.typeIs F.entry_set_add ?_ (F.args_set_add_2 _ _)
  unfold Builtin.«set.add» Builtin.Frozenset.oneOther
  simp only [List.isEmpty_nil, bind_assoc]
  unfold Builtin.Frozenset.addrOf setAdd
  refine wpAny_bind (wpAny_pure ?_)
  try dsimp only
  refine wpAny_bind (wpAny_pure ?_)
  try dsimp only
  refine wpAny_bind (wpAny_holding (wpAny_bind ((strKind P w).pyHash (is_str k u) ?_)))
  refine setT_hashed (s := { s with toks := s.toks + 1 }) R room fun b h' sb r => ?_
  show wpAny _ _ (ret Value.none) _ _ _
  exact wpAny_pure ⟨_, rfl, hQ h' sb r⟩
/-- sorted(set) -/
theorem setT_sorted {Q : Value → Shared → Prop} (R : SetT P w s.heap a l) (hh : A.handled = none) (h64 : l.length < 64)
    (hQ : ∀ s' p (out : Array Value) (c : Nat) (ys : List Str), (∀ b o, s.heap.get? b = some o → s'.heap.get? b = some o) → s'.gens = s.gens → s'.os = s.os → s.heap.objs.size ≤ p →
      s'.heap.get? p = some (seqObj "list" out c) → StrsAre out.toList ys → ys.Perm l → sortedS ys = true → Q (.ref p) s') : wpAny (model P w) A (call (.builtin "sorted") [.ref a]) Q E s := by
  obtain ⟨D, ho, F, pm, st, ri, ld⟩ := R
  have hb : D.1.size < scanBound := Nat.lt_trans (by rw [F.sz]; exact h64) (by decide)
  refine Calls.call_function_entry kind_sorted plain_sorted entry_sorted (args_sorted1 _) ?_
  unfold Builtin.«sorted»
  refine wpAny_bind (m := checkCount "sorted" 1 1 _) (wpAny_pure ?_)
  refine wpAny_bind (collect_set (A := A.in1) hh ⟨_, ho, rfl, rfl⟩ F.fit hb ri ld fun s1 vs k1 hz g1 o1 pv => ?_)
  have hS : StrsAre vs (vs.map strOf) := strsAre_map vs fun v hv => by
    obtain ⟨e, he, q⟩ := List.mem_map.mp (pv.mem_iff.mp hv)
    rw [← q]; exact st e he
  have pz : (vs.map strOf).Perm l := by
    have q := pv.map strOf
    rw [List.map_map] at q
    exact q.trans pm
  have hvl : vs.length = l.length := by rw [← pz.length_eq, List.length_map]
  refine wpAny_bind (wpAny_newList ?_ (by rw [hvl, sizeLine_eq]; omega))
  have hoL : (s1.heap.push (seqObj "list" vs.toArray 0)).get? s1.heap.objs.size = some (seqObj "list" vs.toArray 0) := Heap.get?_push_size _ rfl
  refine wpAny_bind (wpAny_holding (wpAny_call_entry slot_list_sort ⟨_, hoL, rfl⟩ entry_list_sort
    (list_sort_treeK strKind_oneLt hoL hS.keysOf (fun v₁ v₂ rest e => keyKind_strs (by rw [← e]; exact hS)) (by rw [hvl]; exact h64) fun xs hp hs => ⟨_, rfl, ?_⟩) (args_list_sort _)))
  obtain ⟨ys, y1, y2, y3⟩ := sorted_out_str hS hp hs
  obtain ⟨c, hc⟩ := sortedHeap_at (vs := vs) (out := (arrOf xs).map (·.2)) hoL
  refine wpAny_pure ⟨_, rfl, hQ _ s1.heap.objs.size _ c ys (fun b u e => ?_) g1 o1 hz hc y1 (y2.trans pz) y3⟩
  have q := k1 b u e
  have hlt := Heap.lt_size q
  show (sortedHeap (s1.heap.push (seqObj "list" vs.toArray 0)) s1.heap.objs.size vs _).get? b = some u
  rw [sortedHeap_old (Nat.ne_of_lt hlt) (by rw [Heap.size_push]; exact Nat.lt_succ_of_lt hlt)]
  exact Heap.get?_push_of_some _ q
/-- the turns of set(..), one text after the other -/
def addAll : List Str → List Str → List Str
  | [], l => l
  | z :: zs, l => addAll zs (addL z l)
theorem addAll_len : ∀ (zs l : List Str), (addAll zs l).length ≤ zs.length + l.length
  | [], l => by simp [addAll]
  | z :: zs, l => by have := addAll_len zs (addL z l); have := addL_len z l; simp only [addAll, List.length_cons]; omega
theorem setT_loop {I : Addr} {fp wr : List Addr} {GG : Array GenState → Array GenState → Prop} {n : Nat} {Pv : Nat → Value → Prop} {St : Nat → Shared → Prop} {R : Result → Shared → Prop} (W : WalksS P w A.in1 I fp wr GG n Pv St) (a : Addr) (ha : a ∉ fp) (zs : List Str) (hn : n = zs.length)
    (hv : ∀ i v, Pv i v → ∃ z t, zs[i]? = some z ∧ v = .str z t) : ∀ (m i : Nat) (l : List Str) (s : Shared), n - i = m → i ≤ n → St i s → SetT P w s.heap a l → l.length + m + 1 < scanBound →
      (∀ s', Moved (a :: wr) GG s s' → SetT P w s'.heap a (addAll (zs.drop i) l) → R (.ok (.ret .none)) s') → codeAny (model P w) A (.builtin "set.update.loop" ⟨[.ref a, .ref I], []⟩) R s := by
  have aw : a ∉ wr := fun h => ha (W.sub _ h)
  have more : ∀ b ∈ wr, b ∈ a :: wr := fun b hb => List.mem_cons_of_mem _ hb
  intro m
  induction m with
  | zero =>
    intro i l s hm hi hst hS hb hR
    obtain rfl : i = n := by omega
    refine codeAny_builtin F.entry_set_update_loop ?_
    rw [Around.under_plainId F.plain_set_update_loop _]
    show wpAny _ A.in1 (pyNext (.ref I) >>= _) _ _ s
    refine wpAny_bind (W.done s _ _ hst fun s' mv => ?_)
    show wpAny _ A.in1 (ret Value.none) _ _ s'
    have e : zs.drop i = [] := List.drop_eq_nil_of_le (by omega)
    rw [e] at hR
    exact wpAny_pure (hR s' (mv.mono more) (hS.at fun o q => mv.heap a o aw q))
  | succ m ih =>
    intro i l s hm hi hst hS hb hR
    have hlt : i < n := by omega
    refine codeAny_builtin F.entry_set_update_loop ?_
    rw [Around.under_plainId F.plain_set_update_loop _]
    show wpAny _ A.in1 (pyNext (.ref I) >>= _) _ _ s
    refine wpAny_bind (W.item i s _ _ hlt hst fun v s' hp hst' mv => ?_)
    obtain ⟨z, t, hz, rfl⟩ := hv i v hp
    have hd : zs.drop i = z :: zs.drop (i + 1) := by
      have hl : i < zs.length := by omega
      rw [List.drop_eq_getElem_cons hl]
      rw [List.getElem?_eq_getElem hl] at hz
      rw [Option.some.inj hz]
    show wpAny _ A.in1 (holding [Value.str z t] (setAdd a (.str z t)) >>= _) _ _ s'
    refine wpAny_bind (wpAny_holding ?_)
    unfold setAdd
    refine wpAny_holding (wpAny_bind ((strKind P w).pyHash (is_str z t) ?_))
    refine setT_hashed (s := { s' with toks := s'.toks + 1 }) (hS.at fun o q => mv.heap a o aw q) (by omega) fun b h' sb hS2 => ?_
    have := addL_len z l
    refine wpAny_pure ⟨plainId_quiet F.plain_set_update_loop _, ih (i + 1) (addL z l) _ (by omega) hlt (W.frame _ s' _ _ hst' (Nat.le_succ _) fun b hb o e => ?_) hS2 (by omega) fun s'' mv2 hS3 => ?_⟩
    · exact (sb.2 b fun h => ha (h ▸ hb)).trans e
    · refine hR s'' (Moved.trans W.gtrans ((mv.mono more).then_heap (Nat.le_succ _) fun b o hb e => ?_) mv2) (by rw [hd]; exact hS3)
      exact (sb.2 b fun h => hb (by rw [h]; exact List.mem_cons_self)).trans e
set_option maxHeartbeats 3200000 in
/-- set(xs), xs a list of texts -/
theorem call_setT {b : Addr} {its : Array Value} {zs : List Str} {Q : Value → Shared → Prop} (hh : A.handled = none) (hb : s.heap.IsList b its) (hz : StrsAre its.toList zs) (hn : zs.length + 1 < scanBound)
    (h : ∀ (h' : Heap) (tk : Nat), SetT P w h' s.heap.objs.size (addAll zs []) → (∀ c o, s.heap.get? c = some o → h'.get? c = some o) → Q (.ref s.heap.objs.size) { s with heap := h', toks := tk }) :
    wpAny (model P w) A (call (.type "set") [.ref b]) Q E s := by
  have size_eq : its.size = zs.length := by have q := hz.length; rwa [Array.length_toList] at q
  have get_new : (s.heap.push (setNew w)).get? s.heap.objs.size = some (setNew w) := Heap.get?_push_size _ rfl
  have size_new : (s.heap.push (setNew w)).objs.size = s.heap.objs.size + 1 := Heap.size_push ..
  obtain ⟨mroC, mroT, hMro⟩ := F.called_set.mro
  have hMade := F.called_set.made
  have hSub := F.called_set.sub
  refine wpAny_call (codeAny_of_tree ?_)
  show wpAny _ _ (callAny (.type "set") _) _ _ _
  refine wpAny_pure ⟨Code.quiet_builtin _ (by decide +kernel), codeAny_builtin F.entry_type_call ?_⟩
  rw [Around.under_plain (weight_type_call_type "set" [.ref b] []) rfl]
  have hNot := F.called_set.notType
  have hCan := F.called_set.canCreate
  have hChk := F.typeCall_set_1 (.ref b)
  repeat (any_goals (first | assumption | wp_step))
  refine codeAny_mono (code_set_led1 (.ref b) (E := E) (Q₁ := fun ob s₁ => ob = .ref s.heap.objs.size ∧ s₁ = { s with heap := s.heap.push (setNew w) }) ⟨rfl, rfl⟩) fun r s₁ hr => ?_
  cases r with
  | error e => exact hr
  | ok fl =>
    cases fl with
    | next => exact hr.elim
    | brk => exact hr.elim
    | cont => exact hr.elim
    | ret ob =>
      obtain ⟨rfl, rfl⟩ := hr
      have tySet : Shared.TypeIs { s with heap := s.heap.push (setNew w) } (.ref s.heap.objs.size) "set" := ⟨_, get_new, rfl⟩
      have hLook := F.called_set.init.lookup
      have hBind := F.called_set.init.bind (.ref s.heap.objs.size)
      repeat (any_goals (first | assumption | wp_step))
      refine codeAny_mono (codeAny_call_builtin (R := wants (fun r s₂ => r = .none ∧ ∃ h' tk, s₂ = { s with heap := h', toks := tk } ∧ SetT P w h' s.heap.objs.size (addAll zs []) ∧ ∀ c o, s.heap.get? c = some o → h'.get? c = some o) E)
        F.called_set.init.plain F.entry_set_init (check_set_init_1 tySet ?_)) fun r₂ s₂ hr₂ => ?_
      · obtain ⟨⟨oc, od, ot, os⟩, getB, cB, nB, dB⟩ := hb
        simp only at cB dB
        subst cB dB
        have getB1 : (s.heap.push (setNew w)).get? b = some { cls := .type "list", dict := od, data := .seq its nB, slots := os } := Heap.get?_push_of_some _ getB
        have ns1 := F.sub_list_set
        have ns2 := F.sub_list_frozenset
        have nd : (Value.type "list" == Value.type "dict") = false := by decide
        have isB : (s.heap.push (setNew w)).IsList b its := ⟨_, getB1, rfl, nB, rfl⟩
        have ltB : b < s.heap.objs.size := Heap.lt_size getB
        unfold Builtin.«set.__init__» noKeywords Builtin.Frozenset.updateFrom
        generalize hIt : pyIter = theIter
        wp_walk
        subst hIt
        refine wpAny_pyIter_list isB ?_
        refine wpAny_bind (wpAny_runValue ?_)
        have hh3 : A.in1.in1.in1.handled = none := by simp [hh]
        have ne1 : b ≠ (s.heap.push (setNew w)).objs.size := by rw [size_new]; exact Nat.ne_of_lt (Nat.lt_succ_of_lt ltB)
        have out : s.heap.objs.size ∉ [(s.heap.push (setNew w)).objs.size, b] := by
          rw [size_new]
          simp only [List.mem_cons, List.not_mem_nil, or_false, not_or]
          exact ⟨Nat.ne_of_lt (Nat.lt_succ_self _), Nat.ne_of_gt ltB⟩
        refine setT_loop ((Walks.list hh3 _ b ne1 its).toS) s.heap.objs.size out zs size_eq (fun i v hv => ?_) (its.size - 0) 0 [] _ rfl (Nat.zero_le _) ⟨⟨_, Heap.get?_push_size _ rfl, rfl, rfl⟩, isB.push _⟩ (setT_nil (Heap.get?_push_of_some _ get_new)) (by simp; omega) fun s' mv hS => ?_
        · have hi : i < zs.length := by rw [← size_eq]; exact (Array.getElem?_eq_some_iff.mp hv).1
          obtain ⟨t, q⟩ := hz.get i zs[i] (List.getElem?_eq_getElem hi)
          rw [Array.getElem?_toList, hv] at q
          exact ⟨zs[i], t, List.getElem?_eq_getElem hi, Option.some.inj q⟩
        · obtain ⟨h', g2, d', tk', os'⟩ := s'
          obtain rfl : g2 = s.gens := mv.gens
          obtain rfl : d' = s.drawn := mv.drawn
          obtain rfl : os' = s.os := mv.os
          refine wpAny_pure ?_
          show wpAny _ _ (ret Value.none) _ _ _
          refine wpAny_pure ⟨rfl, h', tk', rfl, hS, fun c o q => ?_⟩
          have lt := Heap.lt_size q
          refine mv.heap c o ?_ (Heap.get?_push_of_some _ (Heap.get?_push_of_some _ q))
          simp only [List.mem_cons, List.not_mem_nil, or_false, not_or]
          exact ⟨Nat.ne_of_lt lt, by rw [size_new]; exact Nat.ne_of_lt (Nat.lt_succ_of_lt lt)⟩
      · cases r₂ with
        | error e => exact hr₂
        | ok fl₂ =>
          cases fl₂ with
          | next => exact hr₂.elim
          | brk => exact hr₂.elim
          | cont => exact hr₂.elim
          | ret r =>
            obtain ⟨rfl, h', tk, rfl, hS, hk⟩ := hr₂
            repeat (any_goals (first | assumption | wp_step))
            exact h _ _ hS hk
end
end Oz
set_option Elab.async false
set_option linter.all false
set_option maxRecDepth 100000
set_option maxHeartbeats 4000000
set_option autoImplicit false
/-! Oz: {.. for .. for ..} of texts. -/
namespace Oz
open PySem L2 PyProof.Rows PySem.Froz

/-! ### a set as a tracked thing -/
def SetTO (P : Program) (w : World) (a : Addr) (l : List Str) : HO := .ext fun h => SetT P w h a l
theorem setTO_new {P : Program} {w : World} {H : Hp} {h : Heap} {a : Addr} {l : List Str} (R : SetT P w h a l) : ObjOk P w H h a (SetTO P w a l) := by
  have ⟨D, ho, _⟩ := R
  exact ⟨R, ⟨_, ho⟩, fun h1 h2 p k => SetT.at p k⟩
section
variable {X : Cx}
theorem setTO_get {pins : List (Addr × Obj)} {σ : L2.St} {H : Hp} {s : Shared} {a : Addr} {l : List Str} (I : Inv X pins σ H s) (ha : H a = some (SetTO X.prog X.w a l)) : SetT X.prog X.w s.heap a l := (I.hok a _ ha).1
theorem setTO_add {pins : List (Addr × Obj)} {σ : L2.St} {H : Hp} {s : Shared} {E : Value → Shared → Prop} {D : Addr} {l : List Str} {z : Str} {t : Tok} {Q : Value → Shared → Prop} (I : Inv X pins σ H s) (hD : H D = some (SetTO X.prog X.w D l)) (room : l.length + 1 < scanBound)
    (h : ∀ s', Inv X pins σ (upd H D (SetTO X.prog X.w D (addL z l))) s' → Q .none s') : wpAny (model X.prog X.w) X.A (call (.builtin "set.add") [.ref D, .str z t]) Q E s := by
  refine setT_add (setTO_get I hD) room fun h' sb new => ?_
  have he : ∃ u, h'.get? D = some u := by
    have ⟨o, ho, _⟩ := new
    exact ⟨_, ho⟩
  exact h _ (I.write (e := D) (t' := s.toks + 1) (by rw [hD]; trivial) (.inl rfl) (fun b u hb hu => (sb.2 b hb).trans hu) he (setTO_new new))
/-- set(xs) -/
def rSetT (X : Cx) : List V → Hp → VK → Prop := fun xs H Q => ∃ (b : Addr) (zs : List Str), xs = [.ref b] ∧ SqL X.K H b (zs.map V.str) ∧ zs.length + 1 < scanBound ∧ ∀ p, H p = none → Q (.ref p) (upd H p (SetTO X.prog X.w p (addAll zs [])))
theorem cr_setT (hc : X.calm = true) : CallR X (.type "set") (rSetT X) := by
  intro pins s σ H xs us Q I r h
  obtain ⟨b, zs, rfl, hs, hn, q⟩ := h
  obtain ⟨its, rv, hl, _⟩ := I.list hs
  rw [Vals.ref1 r]
  refine call_setT (I.ok.hd hc) hl.isList (by simpa using rv.strs) hn fun h' tk hS hk => ?_
  exact ⟨.ref _, upd H s.heap.objs.size (SetTO X.prog X.w s.heap.objs.size (addAll zs [])), I.laid (t' := tk) hk (Nat.le_refl _) (setTO_new hS), rfl, q _ (I.hok.fresh (Nat.le_refl _))⟩
/-- sorted(a set) -/
def rSortT (X : Cx) : List V → Hp → VK → Prop := fun xs H Q => ∃ (a : Addr) (l : List Str), xs = [.ref a] ∧ H a = some (SetTO X.prog X.w a l) ∧ l.length < 64 ∧ ∀ ys p, ys.Perm l → sortedS ys = true → H p = none → Q (.ref p) (upd H p (.lst (ys.map V.str)))
theorem cr_sortT (hc : X.calm = true) : CallR X (.builtin "sorted") (rSortT X) := by
  intro pins s σ H xs us Q I r h
  obtain ⟨a, l, rfl, ha, h64, q⟩ := h
  rw [Vals.ref1 r]
  refine setT_sorted (setTO_get I ha) (I.ok.hd hc) h64 fun s' p out c ys k g o hp hg hS hy hs => ?_
  have hz : (ys.map V.str).length ≤ sizeLine := by rw [List.length_map, hy.length_eq]; exact small64 h64
  have new : ObjOk X.prog X.w (upd H p (.lst (ys.map V.str))) s'.heap p (.lst (ys.map V.str)) := ⟨hz, out.toList, c, vals_of_strs hS, hg⟩
  exact ⟨.ref p, _, I.call' (ch := []) o (Un.laid k hp (I.hok.fresh hp)) (I.hok.laid k hp new) (by rw [g]; exact I.bare) (fun _ z => nomatch z), rfl, q ys p hy hs (I.hok.fresh hp)⟩
end

/-! ### the loop of a clause -/
section
variable {X : Cx} {elt : Expr} {gens : List Comprehension} {scope : Scope} {pos ip : Pos} {j : Nat} {tg : Expr} {ifs : List Expr} {it : Addr} {acc : Value} {J : It} {fp : List Addr} {tn : Nat → Heap → Prop} {pins : List (Addr × Obj)} {s : Shared} {σ : L2.St} {H : Hp} {g : TG} {tt : TT}
theorem cl_loop (hxe : ∀ e s, X.xe e s → False) (hc : X.calm = true) (body : Sem PySem.Fin) (tbody : L2.St → Hp → (L2.St → Hp → Prop) → Prop) (Dn : L2.St → Hp → Prop)
    (heq : compTurn (.SetComp elt gens scope pos) j (.ref it) acc X.env = (do
      standAt ip
      match ← pyNext (.ref it) with
      | none => pure (.done .next)
      | some v =>
        letOwnedTupleGo tg (.ref it) v
        assign tg X.env v
        let ok ← forIn ifs true fun c r => if r = true then do let ok ← isTrue c X.env (eval c X.env); pure (ForInStep.yield ok) else pure (ForInStep.yield r)
        if ok = true then body else again (.compLoop (.SetComp elt gens scope pos) j (.ref it) acc X.env)))
    (T : Turn X.prog X.w X.K tg J fp it tn) (hg : PG X tg g) (ht : PTs X ifs tt)
    (hb : ∀ pins' s' σ' H' N, Inv X (pins ++ pins') σ' H' s' → tbody σ' H' N → wpAny (model X.prog X.w) X.A body (fun r s2 => r = .again (.compLoop (.SetComp elt gens scope pos) j (.ref it) acc X.env) ∧ ∃ σ2 H2, Inv X (pins ++ pins') σ2 H2 s2 ∧ N σ2 H2) (fun _ _ => False) s')
    (I0 : Inv X pins σ H s) (st0 : tn 0 s.heap) (f0 : ∀ b ∈ fp, FpOk X pins H b) (Wv : Nat → Nat → L2.St → Hp → Prop) (m0 : Nat) (w0 : Wv 0 m0 σ H)
    (turn : ∀ i m σ H, Wv i m σ H → (J.stop i H ∧ Dn σ H) ∨ (J.go i H ∧ ∃ N : L2.St → Hp → Prop, (∀ σ' H', N σ' H' → ∃ m', m' < m ∧ Wv (i + 1) m' σ' H') ∧ ∀ x H', J.yld i H x H' → g x σ H' fun σ2 H2 => tt σ2 H2 fun b H3 => if b = true then tbody σ2 H3 N else N σ2 H3)) :
    codeAny (model X.prog X.w) X.A (.compLoop (.SetComp elt gens scope pos) j (.ref it) acc X.env) (fun r s' => match r with | .ok _ => ∃ σ' H', Inv X pins σ' H' s' ∧ (∀ b ∈ fp, H' b = none) ∧ Dn σ' H' | .error _ => False) s := by
  have stat : ∀ {H' : Hp}, (∀ b ∈ fp, H' b = none) → ∀ b ∈ fp, FpOk X pins H' b := fun hn b hb => ⟨hn b hb, (f0 b hb).2⟩
  refine codeAny_loop rfl (fun n s' => ∃ i σ' H', Inv X pins σ' H' s' ∧ tn i s'.heap ∧ (∀ b ∈ fp, H' b = none) ∧ Wv i n σ' H') ?_ m0 ⟨0, σ, H, I0, st0, fun b hb => (f0 b hb).1, w0⟩
  rintro n s3 ⟨i, σ3, H3, I3, st3, fr3, w3⟩
  show wpAny _ X.A ((compTurn (.SetComp elt gens scope pos) j (.ref it) acc X.env).onRaise (fun x => do noteFrame x X.env; theTreesLotGoes x)) _ _ s3
  refine wpAny_noted ?_
  rw [heq]
  refine wpAny_bind (wpAny_standAt (wpAny_bind ?_))
  rcases turn i n σ3 H3 w3 with ⟨stop, qn⟩ | ⟨go, N, hN, step⟩
  · refine thnF (T.done X rfl rfl rfl hc i pins s3 σ3 H3 _ I3 (stat fr3) st3 stop) fun r s4 ⟨hr, I4⟩ => ?_
    subst hr
    exact wpAny_pure ⟨σ3, H3, I4, fr3, qn⟩
  · refine thnF (T.item X rfl rfl rfl hc i pins s3 σ3 H3 _ I3 (stat fr3) st3 go) fun r s4 ⟨u, hr, h4⟩ => ?_
    subst hr
    refine wpAny_bind (thnF h4 fun _ s5 ⟨x, H5, I5, r5, y5, st5, fr5⟩ => ?_)
    have I5' := I5.pinned (stat fr5) (T.obj _ _ st5)
    have off : ∀ {α : Type} {m : Sem α} {Q Q' : α → Shared → Prop} {E : Value → Shared → Prop} {s : Shared}, wpAny (model X.prog X.w) X.A m Q X.xe s → (∀ a s, Q a s → Q' a s) → wpAny (model X.prog X.w) X.A m Q' E s := fun h k => wpAny_mono h k fun e s z => (hxe e s z).elim
    refine wpAny_bind (off (hg.run _ s5 σ3 H5 x u _ I5' r5 (step x H5 y5)) fun _ s6 ⟨σ6, H6, I6, q6⟩ => ?_)
    refine wpAny_bind (off (ht.run _ s6 σ6 H6 _ I6 q6) fun b s7 ⟨H7, I7, q7⟩ => ?_)
    have more : ∀ {σ7 : L2.St} {H7 : Hp} {s7 : Shared}, Inv X (pins ++ pinsAt fp s5.heap) σ7 H7 s7 → N σ7 H7 → ∃ m, m < n ∧ ∃ i σ' H', Inv X pins σ' H' s7 ∧ tn i s7.heap ∧ (∀ b ∈ fp, H' b = none) ∧ Wv i m σ' H' := fun {σ7 H7 s7} I7 n7 => by
      obtain ⟨m', hm, w7⟩ := hN σ7 H7 n7
      have pin : ∀ b ∈ fp, ∀ o, s5.heap.get? b = some o → s7.heap.get? b = some o ∧ H7 b = none := fun b hb o e => by
        have z := I7.pin (b, o) (List.mem_append_right _ (List.mem_append_right _ (mem_pinsAt hb e)))
        exact ⟨z.1, z.2.1⟩
      refine ⟨m', hm, i + 1, σ7, H7, I7.unpinned, T.keep _ _ _ st5 fun b hb o e => (pin b hb o e).1, fun b hb => ?_, w7⟩
      obtain ⟨o, e, _⟩ := T.obj _ _ st5 b hb
      exact (pin b hb o e).2
    cases b with
    | false =>
      simp only [Bool.false_eq_true, if_false] at q7 ⊢
      exact wpAny_pure ⟨rfl, more I7 q7⟩
    | true =>
      simp only [if_true] at q7 ⊢
      refine thnF (hb _ s7 σ6 H7 N I7 q7) fun r s8 ⟨hr, σ8, H8, I8, n8⟩ => ?_
      subst hr
      exact ⟨rfl, more I8 n8⟩
end

/-! ### two clauses -/
theorem compS_same {step : Vl → Hs → Res (List Str)} {lk : List Lk} : ∀ {xs : List Vl} {S T : Hs} {zs : List Str}, compS step lk xs S = .ok zs T → T = S
  | [], S, T, zs, h => by
    simp only [compS] at h
    split at h
    · cases h; rfl
    · cases h
  | x :: xs, S, T, zs, h => by
    simp only [compS] at h
    split at h
    · split at h
      · rename_i ys T' _
        split at h
        · cases e : compS step lk xs S with
          | ok ws U =>
            rw [e] at h
            cases h
            exact compS_same e
          | exc x U => rw [e] at h; cases h
          | bad => rw [e] at h; cases h
        · cases h
      · cases h
    · cases h
theorem compS_no {step : Vl → Hs → Res (List Str)} {lk : List Lk} : ∀ {xs : List Vl} {S T : Hs} {x : Xc}, compS step lk xs S ≠ .exc x T
  | [], S, T, x, h => by
    simp only [compS] at h
    split at h <;> cases h
  | x :: xs, S, T, z, h => by
    simp only [compS] at h
    split at h
    · split at h
      · split at h
        · cases e : compS step lk xs S with
          | ok ws U => rw [e] at h; cases h
          | exc x U => exact compS_no e
          | bad => rw [e] at h; cases h
        · cases h
      · cases h
    · cases h
theorem compS_nil {step : Vl → Hs → Res (List Str)} {lk : List Lk} {S T : Hs} {zs : List Str} (h : compS step lk [] S = .ok zs T) : lockd lk S ∧ zs = [] := by
  simp only [compS] at h
  split at h
  · rename_i l; cases h; exact ⟨l, rfl⟩
  · cases h
theorem compS_cons {step : Vl → Hs → Res (List Str)} {lk : List Lk} {x : Vl} {xs : List Vl} {S T : Hs} {zs : List Str} (h : compS step lk (x :: xs) S = .ok zs T) : lockd lk S ∧ ∃ ys rest, step x S = .ok ys S ∧ compS step lk xs S = .ok rest S ∧ zs = ys ++ rest := by
  simp only [compS] at h
  split at h
  · rename_i l
    split at h
    · rename_i ys T' es
      split at h
      · rename_i eT
        subst eT
        cases e : compS step lk xs T' with
        | ok ws U =>
          rw [e] at h
          obtain rfl := compS_same e
          cases h
          exact ⟨l, ys, ws, es, rfl, rfl⟩
        | exc x U => rw [e] at h; cases h
        | bad => rw [e] at h; cases h
      · cases h
    · cases h
  · cases h
theorem addAll_app : ∀ (xs ys l : List Str), addAll (xs ++ ys) l = addAll ys (addAll xs l)
  | [], _, _ => rfl
  | x :: xs, ys, l => by simp only [List.cons_append, addAll, addAll_app xs ys]
section
variable {G : Glb} {ρ ρ' : List Addr} {H H' : Hp} {S : Hs} {D : Addr} {φ : Heap → Prop} {o : HO}
theorem Step.offD (a : Step ρ H ρ' H') (hD : H D = none) : Step ρ H ρ' (upd H' D o) := ⟨a.pre, fun b u h n => by
  rw [upd_ne fun e => by subst e; rw [hD] at h; cases h]; exact a.keep b u h n, a.new⟩
theorem updX (hn : D ∉ ρ) (hD : H D = some (.ext φ)) {ψ : Heap → Prop} : StepX ρ H ρ (upd H D (.ext ψ)) := ⟨List.prefix_refl _, fun b u h n e => by
    by_cases q : b = D
    · subst q; rw [hD] at h; cases h; exact (e _ rfl).elim
    · rw [upd_ne q]; exact h, fun b χ h n => by
    by_cases q : b = D
    · subst q; exact ⟨ψ, upd_same⟩
    · exact ⟨χ, by rw [upd_ne q]; exact h⟩, fun b hb => .inl hb⟩
theorem Sim.offD (s : Sim G ρ H S) (hn : D ∉ ρ) (hD : H D = some (.ext φ)) {ψ : Heap → Prop} : Sim G ρ (upd H D (.ext ψ)) S := ⟨s.len, s.nd, fun r o a h1 h2 => by
  have st := updX (ψ := ψ) hn hD
  have k := s.at_ r o a h1 h2
  have ne : a ≠ D := fun e => hn (by subst e; exact List.mem_of_getElem? h2)
  cases o with
  | lst xs => obtain ⟨vs, h1, h2⟩ := k; exact ⟨vs, by rw [upd_ne ne]; exact h1, VRs.stepX st _ _ h2⟩
  | dct ks xs => obtain ⟨vs, h1, h2, h3⟩ := k; exact ⟨vs, by rw [upd_ne ne]; exact h1, h2, VRs.stepX st _ _ h3⟩
  | ins c ns xs => obtain ⟨dx, vs, h1, h2, h3⟩ := k; exact ⟨dx, vs, by rw [upd_ne ne]; exact h1, h2, VRs.stepX st _ _ h3⟩⟩
theorem wipeG_len {η : Sg} : ∀ {vs : List Nat}, (wipeG η vs).length = η.length
  | [] => rfl
  | v :: vs => by unfold wipeG; rw [List.length_set, wipeG_len]
theorem wipeG_some {η : Sg} {i : Nat} {x : Vl} : ∀ {vs : List Nat}, (wipeG η vs)[i]? = some (some x) → η[i]? = some (some x) ∧ i ∉ vs
  | [], h => ⟨h, by simp⟩
  | v :: vs, h => by
    unfold wipeG at h
    rw [List.getElem?_set] at h
    split at h
    · split at h <;> simp at h
    · rename_i ne
      obtain ⟨h1, h2⟩ := wipeG_some h
      exact ⟨h1, by simp [h2, Ne.symm ne]⟩
theorem ER.low {η : Sg} {σ : L2.St} (h : ER G ρ H η σ) (vs : List Nat) : ER G ρ H (wipeG η vs) σ := ⟨by rw [wipeG_len]; exact h.len, fun i x e => h.at_ i x (wipeG_some e).1⟩
theorem ER.off {η : Sg} {σ σ' : L2.St} {is vs : List Nat} (h : ER G ρ H (wipeG η vs) σ) (f : Off is σ σ') (hs : ∀ i ∈ is, i ∈ vs) : ER G ρ H (wipeG η vs) σ' := ⟨by rw [h.len]; exact f.1.symm, fun i x e => by
  rw [f.2 i fun z => (wipeG_some e).2 (hs i z)]
  exact h.at_ i x e⟩
end
section
variable {G : Glb} {M : Mach} {W : WX} {X : Cx} {k : Nat} {elt tg iter tg1 iter1 : Expr} {ifs ifs1 : List Expr} {scope : Scope} {own : List (Str × Nat)} {vs1 : List Nat} {pos : Pos} {ce : E} {t t1 : Tg} {src src1 : Src} {ci ci1 : Es}
/-- the turns of the second clause -/
noncomputable def sc2in (M : Mach) (ce : E) (vs1 : List Nat) (t1 : Tg) (ci1 : Es) (η1 : Sg) (y : Vl) (S5 : Hs) : Res (List Str) := match bindT t1 y (wipeG η1 vs1) with
  | none => .bad
  | some η2 => (evAll M ci1 η2 S5).bind fun b1 S6 => if b1 = true then (ev M ce η2 S6).bind fun y S7 => match y with
      | .str z => .ok [z] S7
      | _ => .bad
    else .ok [] S6
/-- the turns of the first clause -/
noncomputable def sc2step (M : Mach) (own : List Nat) (ce : E) (t : Tg) (ci : Es) (vs1 : List Nat) (t1 : Tg) (src1 : Src) (ci1 : Es) (η : Sg) (x : Vl) (S2 : Hs) : Res (List Str) := match bindT t x (wipeG η own) with
  | none => .bad
  | some η1 => (evAll M ci η1 S2).bind fun b S3 => if b = true then (evS M src1 η1 S3).bind fun p1 S4 => compS (sc2in M ce vs1 t1 ci1 η1) p1.1 p1.2 S4
    else .ok [] S3
def tSC (G : Glb) (M : Mach) (W : WX) (P : Program) (w : World) (own : List Nat) (ce : E) (t : Tg) (src : Src) (ci : Es) (vs1 : List Nat) (t1 : Tg) (src1 : Src) (ci1 : Es) : TE := fun σ H Q => ∃ ρ η S, Sim G ρ H S ∧ ER G ρ H η σ ∧
  PR G W σ ρ H ((evS M src η S).bind fun p S1 => (compS (sc2step M own ce t ci vs1 t1 src1 ci1 η) p.1 p.2 S1).bind fun zs S2 => .ok zs S2) fun ρ' H' zs _ => zs.length < 64 ∧ ∀ p, H p = none → p ∉ ρ' → H' p = some (SetTO P w p (addAll zs [])) → Q (.ref p) H'
theorem set_start {X : Cx} {elt : Expr} {gens : List Comprehension} {pos : Pos} {j : Nat} {gt gi : Expr} {gf : List Expr} {it acc : Value} {env : Env} {A : Around} {R : Result → Shared → Prop} {s : Shared} (hg : gens[j]? = some ⟨gt, gi, gf, 0⟩)
    (h0 : codeAny (model X.prog X.w) A (.compLoop (.SetComp elt gens scope pos) j it acc env) R s)
    (h : ∀ E, wpAny (model X.prog X.w) A (pyIter it) (fun it' s' => codeAny (model X.prog X.w) A (.compLoop (.SetComp elt gens scope pos) j it' acc env) R s') E s) :
    codeAny (model X.prog X.w) A (.compStart (.SetComp elt gens scope pos) j it acc env) R s := by
  refine codeAny_of_tree ?_
  show wpAny _ _ ((compStart (.SetComp elt gens scope pos) j it acc env).onRaise (fun x => do noteFrame x env; standAt theWindowsPlace)) _ _ s
  refine wpAny_notedAt ?_
  unfold compStart
  have e : (clausesOf (.SetComp elt gens scope pos))[j]? = some ⟨gt, gi, gf, 0⟩ := hg
  rw [e]
  show wpAny _ _ (ask >>= _) _ _ s
  refine wpAny_bind (wpAny_askSetting (wpAny_ite ?_))
  split
  · first
      | exact wpAny_bind (wpAny_pure (wpAny_pure (And.intro rfl h0)))
      | exact wpAny_pure (And.intro rfl h0)
  · first
      | exact wpAny_bind (wpAny_rule (wpAny_bind (wpAny_standAt (wpAny_bind (wpAny_mono (h _) (fun it' s' h' => wpAny_pure (And.intro rfl h')) fun _ _ x => x)))))
      | (refine wpAny_bind (wpAny_rule ?_); show wpAny _ _ (standAt gi.pos >>= _) _ _ s; exact wpAny_bind (wpAny_standAt (wpAny_bind (wpAny_mono (h _) (fun it' s' h' => wpAny_pure (And.intro rfl h')) fun _ _ x => x))))
end
end Oz
set_option Elab.async false
set_option linter.all false
set_option maxRecDepth 100000
set_option maxHeartbeats 4000000
set_option autoImplicit false
/-! Oz: sorted({.. for .. for ..}), sorted(set(..)), sorted(..). -/
namespace Oz
open PySem L2 PyProof.Rows PySem.Froz

section
variable {G : Glb} {M : Mach} {W : WX} {X : Cx} {k : Nat} {elt tg iter tg1 iter1 : Expr} {ifs ifs1 : List Expr} {scope : Scope} {own : List (Str × Nat)} {vs1 : List Nat} {pos : Pos} {ce : E} {t t1 : Tg} {src src1 : Src} {ci ci1 : Es}
theorem pe_sc2 (g : Good G k X) (hsl : ∀ i ∈ t.slots, i ∈ own.map (·.2)) (hsl1 : ∀ i ∈ t1.slots, i ∈ vs1) (hv : ∀ i ∈ vs1, i ∈ own.map (·.2)) (hi : PI X tg iter (tS G M W src)) (ok : BlkOk X.N X.env.scope scope own)
    (hg : ∀ (s : Shared) (H : Hp) (C : Addr) (cl : List (Str × Addr)) (fp : List Addr), PG (X.blk s H scope (compEnvC scope cl C X.env) fp) tg (tG G t)) (ht : ∀ (s : Shared) (H : Hp) (C : Addr) (cl : List (Str × Addr)) (fp : List Addr), PTs (X.blk s H scope (compEnvC scope cl C X.env) fp) ifs (tAll G M WF ci))
    (hi1 : ∀ (s : Shared) (H : Hp) (C : Addr) (cl : List (Str × Addr)) (fp : List Addr), PI (X.blk s H scope (compEnvC scope cl C X.env) fp) tg1 iter1 (tS G M WF src1))
    (hg1 : ∀ (s : Shared) (H : Hp) (C : Addr) (cl : List (Str × Addr)) (fp : List Addr), PG (X.blk s H scope (compEnvC scope cl C X.env) fp) tg1 (tG G t1)) (ht1 : ∀ (s : Shared) (H : Hp) (C : Addr) (cl : List (Str × Addr)) (fp : List Addr), PTs (X.blk s H scope (compEnvC scope cl C X.env) fp) ifs1 (tAll G M WF ci1))
    (he : ∀ (s : Shared) (H : Hp) (C : Addr) (cl : List (Str × Addr)) (fp : List Addr), PE (X.blk s H scope (compEnvC scope cl C X.env) fp) elt (tE G M WF ce)) (hs : ∀ x, foldedSetIterable iter X.env x = pure x := by intro _; rfl) (hs1 : ∀ env x, foldedSetIterable iter1 env x = pure x := by intro _ _; rfl) :
    PE X (.SetComp elt [⟨tg, iter, ifs, 0⟩, ⟨tg1, iter1, ifs1, 0⟩] scope pos) (tSC G M W X.prog X.w (own.map (·.2)) ce t src ci vs1 t1 src1 ci1) := by
  refine ⟨fun pins s σ H Q I ⟨ρ, η, S, s0, er0, h⟩ => ?_⟩
  have hfree : ∀ y ∈ scope.names, y.2 = .free → ∃ c, X.env.cells.lookup y.1 = some c := fun y hy e => (ok.free y hy e).elim (fun z => I.ok.has _ (.inl z)) fun z => I.ok.has _ (.inr z)
  show wpAny _ _ (comprehension (.SetComp elt [⟨tg, iter, ifs, 0⟩, ⟨tg1, iter1, ifs1, 0⟩] scope pos) scope X.env (firstIterPos [⟨tg, iter, ifs, 0⟩, ⟨tg1, iter1, ifs1, 0⟩] pos) (newSet (.type "set")) false (eval iter X.env)) _ _ _
  generalize hstep : sc2step M (own.map (·.2)) ce t ci vs1 t1 src1 ci1 η = step at h
  -- what the source tells
  have hsrc : tS G M W src σ H fun J H1 => ∃ ρ1 S1 lk xs zs, Step ρ H ρ1 H1 ∧ Sim G ρ1 H1 S1 ∧ JW G J ρ1 H1 lk xs ∧ compS step lk xs S1 = .ok zs S1 ∧ zs.length < 64 ∧ ∀ H' p, Step ρ1 H1 ρ1 H' → Sim G ρ1 H' S1 → H p = none → p ∉ ρ1 → H' p = some (SetTO X.prog X.w p (addAll zs [])) → Q (.ref p) H' := by
    refine ⟨ρ, η, S, s0, er0, (PR.bind h).mono fun ρ1 H1 p S1 st s1 h1 J jw => ?_⟩
    obtain ⟨lk, xs⟩ := p
    simp only at h1 jw
    cases e : compS step lk xs S1 with
    | ok zs T =>
      obtain rfl := compS_same e
      rw [e] at h1
      exact ⟨ρ1, T, lk, xs, zs, st, s1, jw, e, (h1.here s1).1, fun H' p a b => (h1 ρ1 H' a b).2 p⟩
    | exc x T => exact (compS_no e).elim
    | bad => rw [e] at h1; exact h1.elim
  refine wpAny_comprehension_free (use := none) rfl hs (closure_ok hfree) ok.kind (fun y hy e => by rw [ok.uniq y hy, e]) (thn (hi.run pins s σ H _ I hsrc) fun xv s1 hx => thn hx fun itv s2 h2 => ?_)
  obtain ⟨it, fp, tn, J, H2, rfl, I2, T, st2, f2, ρ1, S1, lk, xs, zs, stp, sim1, jw, hzs, h64, fin⟩ := h2
  refine PpSet.newSet_ok (newEnv_comp ?_)
  generalize hD : s2.heap.objs.size = D
  have hDn : H2 D = none := I2.hok.fresh (Nat.le_of_eq hD)
  have hDρ : D ∉ ρ1 := sim1.free hDn
  have hD0 : H D = none := none_of s0 sim1 stp hDn
  have get3 : (s2.heap.push (setNew X.w)).get? D = some (setNew X.w) := by rw [← hD]; exact Heap.get?_push_size _ rfl
  generalize hs3 : ({ s2 with heap := s2.heap.push (setNew X.w) } : Shared) = s3
  have heap3 : s3.heap = s2.heap.push (setNew X.w) := by rw [← hs3]
  have I3 : Inv X pins σ (upd H2 D (SetTO X.prog X.w D [])) s3 := by
    rw [← hs3]
    exact I2.laid (t' := s2.toks) (fun b o e => Heap.get?_push_of_some _ e) (Nat.le_of_eq hD) (setTO_new (setT_nil get3))
  have f3 : ∀ b ∈ fp, FpOk X pins (upd H2 D (SetTO X.prog X.w D [])) b ∧ b < s3.heap.objs.size := fun b hb => by
    obtain ⟨o, e, _⟩ := T.obj _ _ st2 b hb
    have lt := Heap.lt_size e
    refine ⟨⟨?_, (f2 b hb).2⟩, by rw [heap3, Heap.size_push]; exact Nat.lt_succ_of_lt lt⟩
    rw [upd_ne (by rw [← hD]; exact Nat.ne_of_lt lt)]
    exact (f2 b hb).1
  have st3 : tn 0 s3.heap := T.keep _ _ _ st2 fun b _ o e => by rw [heap3]; exact Heap.get?_push_of_some _ e
  have I4 := block_start I3 ok g.nd f3
  generalize hH3 : upd H2 D (SetTO X.prog X.w D []) = H3 at I3 I4 f3
  generalize hcl : cellsFrom (s3.heap.objs.size + 1) scope.names (cloFrom X.env.cells scope.names []) = cl at I4
  have pg := hg s3 H3 s3.heap.objs.size cl fp
  have pt := ht s3 H3 s3.heap.objs.size cl fp
  have pe := he s3 H3 s3.heap.objs.size cl fp
  have pi1 := hi1 s3 H3 s3.heap.objs.size cl fp
  have pg1 := hg1 s3 H3 s3.heap.objs.size cl fp
  have pt1 := ht1 s3 H3 s3.heap.objs.size cl fp
  show codeAny _ _ (.compStart (.SetComp elt [⟨tg, iter, ifs, 0⟩, ⟨tg1, iter1, ifs1, 0⟩] scope pos) 0 (.ref it) (.ref D) (compEnvC scope cl s3.heap.objs.size X.env)) (compPost (model X.prog X.w) X.A X.xe none (EP X pins σ Q) (.ref D) s3.heap.objs.size) { s3 with heap := pushCells (s3.heap.push { cls := .type "dict", data := .dict #[] }) scope.names }
  generalize hce : compEnvC scope cl s3.heap.objs.size X.env = ce' at I4 pg pt pe pi1 pg1 pt1 ⊢
  have cL : ce'.locals = s3.heap.objs.size := by subst hce; rfl
  generalize hs4 : ({ s3 with heap := pushCells (s3.heap.push { cls := .type "dict", data := .dict #[] }) scope.names } : Shared) = s4 at I4 ⊢
  have st4 : tn 0 s4.heap := T.keep _ _ _ st3 fun b _ o e => by rw [← hs4]; exact pushCells_keeps _ _ _ _ (Heap.get?_push_of_some _ e)
  have f4 : ∀ b ∈ fp, FpOk (X.blk s3 H3 scope ce' fp) [] H3 b := fun b hb => ⟨(f3 b hb).1.1, (I4.ok.exf b hb).1, I4.ok.exfs b hb, .inl hb, fun x c e => (I4.ok.exf b hb).2 x c e, fun p hp => absurd (show p ∈ ([] : List (Addr × Obj)) ++ [] from hp) (by simp)⟩
  -- the outer invariant
  let Pv : Nat → L2.St → Hp → Prop := fun i σ' H' => ∃ done rest, done ++ rest = zs ∧ compS step lk (xs.drop i) S1 = .ok rest S1 ∧ Step ρ1 H2 ρ1 H' ∧ Sim G ρ1 H' S1 ∧ ER G ρ1 H' (wipeG η (own.map (·.2))) σ' ∧ H' D = some (SetTO X.prog X.w D (addAll done []))
  -- what one text more comes to
  let tb1 : L2.St → Hp → (L2.St → Hp → Prop) → Prop := fun σ5 H6 N => tE G M WF ce σ5 H6 fun y H7 => ∃ z l, y = .str z ∧ H7 D = some (SetTO X.prog X.w D l) ∧ l.length + 1 < scanBound ∧ N σ5 (upd H7 D (SetTO X.prog X.w D (addL z l)))
  let tb0 : L2.St → Hp → (L2.St → Hp → Prop) → Prop := fun σ4 H5 N => tS G M WF src1 σ4 H5 fun J1 H4 => ∃ (Wv1 : Nat → Nat → L2.St → Hp → Prop) (m1 : Nat), Wv1 0 m1 σ4 H4 ∧ ∀ j m σ H, Wv1 j m σ H →
    (J1.stop j H ∧ N σ H) ∨ (J1.go j H ∧ ∃ N1 : L2.St → Hp → Prop, (∀ σ' H', N1 σ' H' → ∃ m', m' < m ∧ Wv1 (j + 1) m' σ' H') ∧ ∀ x H', J1.yld j H x H' → tG G t1 x σ H' fun σ2 H2 => tAll G M WF ci1 σ2 H2 fun b H3 => if b = true then tb1 σ2 H3 N1 else N1 σ2 H3)
  have hroom : ∀ l : List Str, l.length ≤ zs.length → (addAll l []).length + 1 < scanBound := fun l hl => by
    have a := addAll_len l []
    have b : (65 : Nat) < scanBound := by decide
    simp only [List.length_nil, Nat.add_zero] at a
    omega
  have w0 : Pv 0 (wipe σ (own.map (·.2))) H3 := ⟨[], zs, rfl, by simpa using hzs, by rw [← hH3]; exact (Step.refl _ _).offD hDn, by rw [← hH3]; exact sim1.same (same_new hDn), by
    rw [← hH3]
    exact (((er0.step stp).step (stepSame (same_new hDn))).wipe _), by rw [← hH3]; exact upd_same⟩
  have turn : ∀ i m σ' H', (m = xs.length - i ∧ i ≤ xs.length ∧ Pv i σ' H') → (J.stop i H' ∧ Q (.ref D) H') ∨ (J.go i H' ∧ ∃ N : L2.St → Hp → Prop, (∀ σ2 H2, N σ2 H2 → ∃ m', m' < m ∧ (m' = xs.length - (i + 1) ∧ i + 1 ≤ xs.length ∧ Pv (i + 1) σ2 H2)) ∧ ∀ x H3, J.yld i H' x H3 → tG G t x σ' H3 fun σ2 H2 => tAll G M WF ci σ2 H2 fun b H3 => if b = true then tb0 σ2 H3 N else N σ2 H3) := by
    rintro i m σ' H' ⟨rfl, hil, done, rest, hdr, hc, stA, simA, erA, hDA⟩
    by_cases hl : i < xs.length
    · rw [List.drop_eq_getElem_cons hl] at hc
      obtain ⟨lkd, ys, rest', hst, hc', rfl⟩ := compS_cons hc
      obtain ⟨hgo, hy⟩ := jw.go ρ1 H' S1 i xs[i] stA.x simA lkd (by simp [hl])
      refine .inr ⟨hgo, Pv (i + 1), fun σ2 H2 a => ⟨xs.length - (i + 1), by omega, rfl, by omega, a⟩, fun x H3 y => ?_⟩
      obtain ⟨sm, hv3⟩ := hy x H3 y
      have st3' : Step ρ1 H' ρ1 H3 := stepSame sm
      have sim3 := simA.same sm
      have stB : Step ρ1 H2 ρ1 H3 := stA.trans st3'
      have hD3 : H3 D = some (SetTO X.prog X.w D (addAll done [])) := sm _ _ hDA
      have est : sc2step M (own.map (·.2)) ce t ci vs1 t1 src1 ci1 η xs[i] S1 = .ok ys S1 := by rw [hstep]; exact hst
      unfold sc2step at est
      cases eb : bindT t xs[i] (wipeG η (own.map (·.2))) with
      | none => rw [eb] at est; cases est
      | some η2 =>
        rw [eb] at est
        simp only at est
        refine ⟨ρ1, S1, wipeG η (own.map (·.2)), xs[i], η2, sim3, erA.step st3', hv3, eb, fun σ4 of4 er4 => ⟨ρ1, η2, S1, sim3, er4, ?_⟩⟩
        have erO : ER G ρ1 H3 (wipeG η (own.map (·.2))) σ4 := (erA.step st3').off of4 hsl
        cases ea : evAll M ci η2 S1 with
        | bad => rw [ea] at est; cases est
        | exc x S3 => rw [ea] at est; cases est
        | ok b S3 =>
          rw [ea] at est
          simp only [Res.bind] at est
          refine fun ρ5 H5 st5 s5 => ?_
          have hD5 : H5 D = some (SetTO X.prog X.w D (addAll done [])) := st5.keep _ _ hD3 hDρ
          cases b with
          | false =>
            simp only [Bool.false_eq_true, if_false] at est ⊢
            cases est
            have e5 : ρ5 = ρ1 := pre_eq st5.pre (by rw [s5.len, ← sim3.len])
            subst e5
            exact ⟨done, rest', by simpa using hdr, hc', stB.trans st5, s5, erO.step st5, hD5⟩
          | true =>
            simp only [if_true] at est ⊢
            refine ⟨ρ5, η2, S3, s5, er4.step st5, ?_⟩
            cases es1 : evS M src1 η2 S3 with
            | bad => rw [es1] at est; cases est
            | exc x S4 => rw [es1] at est; cases est
            | ok p S4 =>
              obtain ⟨lk1, xs1⟩ := p
              rw [es1] at est
              simp only [Res.bind] at est
              obtain rfl := compS_same est
              refine fun ρ7 H7 st7 s7 J1 jw1 => ?_
              have e7 : ρ7 = ρ1 := pre_eq (st5.trans st7).pre (by rw [s7.len, ← sim3.len])
              subst e7
              have hD7 : H7 D = some (SetTO X.prog X.w D (addAll done [])) := (st5.trans st7).keep _ _ hD3 hDρ
              have er7 := er4.step (st5.trans st7)
              have erO7 := erO.step (st5.trans st7)
              generalize hstep1 : sc2in M ce vs1 t1 ci1 η2 = step1 at est
              let Pv1 : Nat → L2.St → Hp → Prop := fun j σ' H' => ∃ ys1 ys2, ys1 ++ ys2 = ys ∧ compS step1 lk1 (xs1.drop j) S1 = .ok ys2 S1 ∧ Step ρ7 H2 ρ7 H' ∧ StepX ρ7 H7 ρ7 H' ∧ Sim G ρ7 H' S1 ∧ ER G ρ7 H' (wipeG η (own.map (·.2))) σ' ∧ ER G ρ7 H' (wipeG η2 vs1) σ' ∧ H' D = some (SetTO X.prog X.w D (addAll (done ++ ys1) []))
              refine ⟨fun j m σ' H' => m = xs1.length - j ∧ j ≤ xs1.length ∧ Pv1 j σ' H', xs1.length, ⟨by simp, Nat.zero_le _, [], ys, rfl, by simpa using est, (stB.trans st5).trans st7, (Step.refl _ _).x, s7, erO7, er7.low vs1, by simpa using hD7⟩, ?_⟩
              rintro j m σj Hj ⟨rfl, hjl, ys1, ys2, hyy, hcj, stJ, stX, simJ, erJ, erK, hDJ⟩
              by_cases hj : j < xs1.length
              · rw [List.drop_eq_getElem_cons hj] at hcj
                obtain ⟨lkd1, ws, rest1, hst1, hcj', rfl⟩ := compS_cons hcj
                obtain ⟨hgo1, hy1⟩ := jw1.go ρ7 Hj S1 j xs1[j] stX simJ lkd1 (by simp [hj])
                refine .inr ⟨hgo1, Pv1 (j + 1), fun σ2 H2 a => ⟨xs1.length - (j + 1), by omega, rfl, by omega, a⟩, fun x1 Hy y1 => ?_⟩
                obtain ⟨smy, hvy⟩ := hy1 x1 Hy y1
                have sty : Step ρ7 Hj ρ7 Hy := stepSame smy
                have simy := simJ.same smy
                have hDy : Hy D = some (SetTO X.prog X.w D (addAll (done ++ ys1) [])) := smy _ _ hDJ
                rw [← hstep1] at hst1
                unfold sc2in at hst1
                cases eb1 : bindT t1 xs1[j] (wipeG η2 vs1) with
                | none => rw [eb1] at hst1; cases hst1
                | some η3 =>
                  rw [eb1] at hst1
                  simp only at hst1
                  refine ⟨ρ7, S1, wipeG η2 vs1, xs1[j], η3, simy, erK.step sty, hvy, eb1, fun σ8 of8 er8 => ⟨ρ7, η3, S1, simy, er8, ?_⟩⟩
                  have erJ8 := (erJ.step sty).off of8 fun i hi => hv i (hsl1 i hi)
                  have erK8 := (erK.step sty).off of8 hsl1
                  cases ea1 : evAll M ci1 η3 S1 with
                  | bad => rw [ea1] at hst1; cases hst1
                  | exc x S6 => rw [ea1] at hst1; cases hst1
                  | ok b1 S6 =>
                    rw [ea1] at hst1
                    simp only [Res.bind] at hst1
                    refine fun ρ9 H9 st9 s9 => ?_
                    cases b1 with
                    | false =>
                      simp only [Bool.false_eq_true, if_false] at hst1 ⊢
                      cases hst1
                      have e9 : ρ9 = ρ7 := pre_eq st9.pre (by rw [s9.len, ← s7.len])
                      subst e9
                      exact ⟨ys1, rest1, by simpa using hyy, hcj', (stJ.trans sty).trans st9, (stX.trans sty.x).trans st9.x, s9, erJ8.step st9, erK8.step st9, st9.keep _ _ hDy hDρ⟩
                    | true =>
                      simp only [if_true] at hst1 ⊢
                      refine ⟨ρ9, η3, S6, s9, er8.step st9, ?_⟩
                      cases ev1 : ev M ce η3 S6 with
                      | bad => rw [ev1] at hst1; cases hst1
                      | exc x S7 => rw [ev1] at hst1; cases hst1
                      | ok yv S7 =>
                        rw [ev1] at hst1
                        simp only [Res.bind] at hst1
                        cases yv with
                        | str z =>
                          cases hst1
                          refine fun ρa Ha sta sa w hw => ?_
                          have ea : ρa = ρ7 := pre_eq (st9.trans sta).pre (by rw [sa.len, ← s7.len])
                          subst ea
                          simp only [VR] at hw
                          subst hw
                          have stT := sty.trans (st9.trans sta)
                          have hDa : Ha D = some (SetTO X.prog X.w D (addAll (done ++ ys1) [])) := (st9.trans sta).keep _ _ hDy hDρ
                          have ux := updX (ψ := fun h => SetT X.prog X.w h D (addL z (addAll (done ++ ys1) []))) hDρ hDa
                          refine ⟨z, _, rfl, hDa, hroom _ ?_, ys1 ++ [z], rest1, by simpa using hyy, hcj', (stJ.trans stT).offD hDn, (stX.trans stT.x).trans ux, sa.offD hDρ hDa, (erJ8.step (st9.trans sta)).stepX ux, (erK8.step (st9.trans sta)).stepX ux, ?_⟩
                          · rw [← hdr, ← hyy]; simp
                          · rw [upd_same, ← List.append_assoc, addAll_app (done ++ ys1)]; rfl
                        | _ => cases hst1
              · have e : j = xs1.length := by omega
                subst e
                rw [List.drop_length] at hcj
                obtain ⟨lkd1, rfl⟩ := compS_nil hcj
                refine .inl ⟨jw1.stop ρ7 Hj S1 stX simJ lkd1, done ++ ys, rest', by simpa using hdr, hc', stJ, simJ, erJ, ?_⟩
                have e2 : ys1 = ys := by simpa using hyy
                rw [← e2]; exact hDJ
    · have e : i = xs.length := by omega
      subst e
      rw [List.drop_length] at hc
      obtain ⟨lkd, rfl⟩ := compS_nil hc
      have e2 : done = zs := by simpa using hdr
      subst e2
      exact .inl ⟨jw.stop ρ1 H' S1 stA.x simA lkd, fin H' D stA simA hD0 hDρ hDA⟩
  have lists : ([] : List (Addr × Obj)) ++ [] = [] := rfl
  -- the block's body: the second loop
  have hb : ∀ pins' s' σ' H' N, Inv (X.blk s3 H3 scope ce' fp) ([] ++ pins') σ' H' s' → tb0 σ' H' N → wpAny (model X.prog X.w) X.A (do
      let x ← eval iter1 ce'
      standAt iter1.pos
      let x ← foldedSetIterable iter1 ce' x
      let _ ← runOwn (.compStart (.SetComp elt [⟨tg, iter, ifs, 0⟩, ⟨tg1, iter1, ifs1, 0⟩] scope pos) 1 (← holding [x] (pyIter x)) (.ref D) ce') ce'
      again (.compLoop (.SetComp elt [⟨tg, iter, ifs, 0⟩, ⟨tg1, iter1, ifs1, 0⟩] scope pos) 0 (.ref it) (.ref D) ce')) (fun r s2 => r = .again (.compLoop (.SetComp elt [⟨tg, iter, ifs, 0⟩, ⟨tg1, iter1, ifs1, 0⟩] scope pos) 0 (.ref it) (.ref D) ce') ∧ ∃ σ2 H2, Inv (X.blk s3 H3 scope ce' fp) ([] ++ pins') σ2 H2 s2 ∧ N σ2 H2) (fun _ _ => False) s' := by
    intro pins' s' σ' H' N I' q
    refine wpAny_bind (thnF (pi1.run _ s' σ' H' _ I' q) fun xv s10 hx => wpAny_bind (wpAny_standAt (wpAny_bind (wpAny_of_eq (hs1 ce' xv) (wpAny_bind (wpAny_holding (thnF hx fun itv s11 h11 => ?_)))))))
    obtain ⟨it1, fp1, tn1, J1, H11, rfl, I11, T1, st11, f11, Wv1, m1, w1, turn1⟩ := h11
    refine wpAny_bind (wpAny_runOwn ?_)
    rw [Around.mark_none]
    have inner : codeAny (model X.prog X.w) X.A (.compLoop (.SetComp elt [⟨tg, iter, ifs, 0⟩, ⟨tg1, iter1, ifs1, 0⟩] scope pos) 1 (.ref it1) (.ref D) ce') (fun r s' => match r with | .ok _ => ∃ σ' H', Inv (X.blk s3 H3 scope ce' fp) ([] ++ pins') σ' H' s' ∧ (∀ b ∈ fp1, H' b = none) ∧ N σ' H' | .error _ => False) s11 :=
      cl_loop (X := X.blk s3 H3 scope ce' fp) (ip := iter1.pos) (fun _ _ z => z) g.calm (do
        (do let v ← eval elt ce'; standAt elt.pos; let _ ← call (.builtin "set.add") [.ref D, v])
        again (.compLoop (.SetComp elt [⟨tg, iter, ifs, 0⟩, ⟨tg1, iter1, ifs1, 0⟩] scope pos) 1 (.ref it1) (.ref D) ce')) tb1 N (by rfl) T1 pg1 pt1 (fun pins2 s2 σ2 H2 N1 I2 q2 => by
        refine wpAny_bind (wpAny_bind (thnF (pe.run _ s2 σ2 H2 _ I2 q2) fun v s3 ⟨y, H3, I3, r3, z, l, ey, hDl, room, n1⟩ => wpAny_bind (wpAny_standAt (wpAny_bind ?_))))
        subst ey
        obtain ⟨tk, rfl⟩ := r3
        exact setTO_add (X := X.blk _ _ scope ce' fp) I3 hDl room fun s4 I4 => wpAny_pure (wpAny_pure ⟨rfl, _, _, I4, n1⟩)) I11 st11 f11 Wv1 m1 w1 turn1
    refine codeAny_mono (set_start (X := X) (gt := tg1) (gi := iter1) (gf := ifs1) rfl inner fun E => T1.self X.A 0 _ _ _ st11 inner) fun r s12 hr => ?_
    cases r with
    | ok f =>
      obtain ⟨σ2, H2, I2, _, n2⟩ := hr
      first
        | exact wpAny_pure ⟨rfl, σ2, H2, I2, n2⟩
        | exact wpAny_bind (wpAny_pure (wpAny_pure ⟨rfl, σ2, H2, I2, n2⟩))
    | error e => exact hr.elim
  have outer := cl_loop (X := X.blk s3 H3 scope ce' fp) (pins := []) (ip := iter.pos) (fun _ _ z => z) g.calm _ tb0 (fun _ H' => Q (.ref D) H') (by rfl) T pg pt hb I4 st4 f4 (fun i m σ' H' => m = xs.length - i ∧ i ≤ xs.length ∧ Pv i σ' H') xs.length ⟨by simp, Nat.zero_le _, w0⟩ turn
  refine codeAny_mono (set_start (X := X) (gt := tg) (gi := iter) (gf := ifs) rfl outer fun E => T.self X.A 0 _ _ _ st4 outer) fun r s6 hr => ?_
  cases r with
  | error e => exact hr.elim
  | ok f =>
    obtain ⟨σ6, H6, I6, nf, q6⟩ := hr
    have I7 : Inv X pins σ H6 s6 := I3.call' (ch := fp) I6.os I6.base I6.hok I6.bare fun b hb => ⟨(f3 b hb).1.2.2.2.1, (f3 b hb).1.2.1, (f3 b hb).1.2.2.2.2.1, (f3 b hb).1.2.2.2.2.2⟩
    have nC : H6 s3.heap.objs.size = none := by
      have z : H6 ce'.locals = none := I6.free
      rwa [cL] at z
    obtain ⟨m, hn, _⟩ := I6.loc
    have hn : s6.heap.Ns ce'.locals m := hn
    rw [cL] at hn
    refine ⟨m, hn, fun h'' sb => ?_⟩
    obtain ⟨f0, f1, f2, f3, f4, f5⟩ := I3.fpOk (Nat.le_refl _) nC
    exact ⟨.ref D, H6, I7.turned (t' := s6.toks) (fun b o hb e => (sb.2 b hb).trans e) f0 f1 f3 f4 f5, rfl, q6⟩
end
end Oz
set_option Elab.async false
set_option linter.all false
set_option maxRecDepth 100000
set_option maxHeartbeats 4000000
set_option autoImplicit false
/-! Oz: sorted. -/
namespace Oz
open PySem L2 PyProof.Rows PySem.Froz PySem.Spec

/-! ### texts in order -/
def leS (a b : Str) : Prop := strLt b a = false
theorem leS_iff {a b : Str} : leS a b ↔ ¬ b.cps.toList < a.cps.toList := by unfold leS strLt; rw [decide_eq_false_iff_not]
theorem leS_anti {a b : Str} (h : leS a b) (k : leS b a) : a = b := by
  rw [leS_iff] at h k
  have e : a.cps.toList = b.cps.toList := List.le_antisymm h k
  obtain ⟨x⟩ := a
  obtain ⟨y⟩ := b
  congr 1
  exact Array.toList_inj.mp e
theorem leS_trans {a b c : Str} (h : leS a b) (k : leS b c) : leS a c := by
  rw [leS_iff] at *
  exact List.le_trans h k
theorem leS_total (a b : Str) : leS a b ∨ leS b a := by
  rw [leS_iff, leS_iff]
  exact List.le_total _ _
theorem ins_perm (x : Str) : ∀ ys : List Str, (insStr x ys).Perm (x :: ys)
  | [] => .refl _
  | y :: ys => by
    unfold insStr
    split
    · exact ((ins_perm x ys).cons y).trans (.swap x y ys)
    · exact .refl _
theorem sort_perm : ∀ xs : List Str, (sortStr xs).Perm xs
  | [] => .refl _
  | x :: xs => (ins_perm x _).trans ((sort_perm xs).cons x)
theorem ins_pw (x : Str) : ∀ ys : List Str, ys.Pairwise leS → (insStr x ys).Pairwise leS
  | [], _ => by simp [insStr]
  | y :: ys, h => by
    obtain ⟨h1, h2⟩ := List.pairwise_cons.mp h
    unfold insStr
    split
    · rename_i c
      refine List.pairwise_cons.mpr ⟨fun z hz => ?_, ins_pw x ys h2⟩
      rcases List.mem_cons.mp ((ins_perm x ys).mem_iff.mp hz) with e | e
      · subst e
        rcases leS_total y z with q | q
        · exact q
        · unfold leS at q; rw [c] at q; cases q
      · exact h1 z e
    · rename_i c
      have c' : leS x y := by unfold leS; simpa using c
      exact List.pairwise_cons.mpr ⟨fun z hz => (List.mem_cons.mp hz).elim (fun e => e ▸ c') fun e => leS_trans c' (h1 z e), h⟩
theorem sort_pw : ∀ xs : List Str, (sortStr xs).Pairwise leS
  | [] => List.Pairwise.nil
  | x :: xs => ins_pw x _ (sort_pw xs)
theorem rising_pw : ∀ (p : Str) (l : List Str), risingS p l = true → (p :: l).Pairwise leS
  | p, [], _ => by simp
  | p, x :: r, h => by
    have h' : (!ltCps x.cps.toList p.cps.toList && risingS x r) = true := h
    rw [Bool.and_eq_true] at h'
    have px : leS p x := by unfold leS strLt; rw [← ltCps_eq]; simpa using h'.1
    have ih := rising_pw x r h'.2
    exact List.pairwise_cons.mpr ⟨fun z hz => (List.mem_cons.mp hz).elim (fun e => e ▸ px) fun e => leS_trans px ((List.pairwise_cons.mp ih).1 z e), ih⟩
theorem sorted_pw : ∀ (l : List Str), sortedS l = true → l.Pairwise leS
  | [], _ => List.Pairwise.nil
  | x :: r, h => rising_pw x r h
theorem sorted_is {ys zs : List Str} (h : ys.Perm zs) (s : sortedS ys = true) : ys = sortStr zs :=
  List.Perm.eq_of_pairwise (le := leS) (fun _ _ _ _ => leS_anti) (sorted_pw ys s) (sort_pw zs) (h.trans (sort_perm zs).symm)
theorem sort_congr {xs ys : List Str} (h : xs.Perm ys) : sortStr xs = sortStr ys :=
  List.Perm.eq_of_pairwise (le := leS) (fun _ _ _ _ => leS_anti) (sort_pw xs) (sort_pw ys) ((sort_perm xs).trans (h.trans (sort_perm ys).symm))
theorem dedup_mem (z : Str) : ∀ xs : List Str, z ∈ dedupS xs ↔ z ∈ xs
  | [] => by simp [dedupS]
  | x :: xs => by
    unfold dedupS
    split
    · rename_i c
      rw [dedup_mem z xs, List.mem_cons]
      exact ⟨.inr, fun h => h.elim (fun e => e ▸ c) id⟩
    · rw [List.mem_cons, List.mem_cons, dedup_mem z xs]
theorem dedup_nd : ∀ xs : List Str, (dedupS xs).Nodup
  | [] => List.Pairwise.nil
  | x :: xs => by
    unfold dedupS
    split
    · exact dedup_nd xs
    · rename_i c
      exact List.nodup_cons.mpr ⟨fun h => c ((dedup_mem x xs).mp h), dedup_nd xs⟩
theorem addL_mem (z k : Str) (l : List Str) : z ∈ addL k l ↔ z = k ∨ z ∈ l := by
  unfold addL
  split
  · rename_i c; exact ⟨.inr, fun h => h.elim (fun e => e ▸ c) id⟩
  · exact List.mem_cons
theorem addL_nd (k : Str) (l : List Str) (h : l.Nodup) : (addL k l).Nodup := by
  unfold addL
  split
  · exact h
  · rename_i c; exact List.nodup_cons.mpr ⟨c, h⟩
theorem addAll_mem (z : Str) : ∀ (xs l : List Str), z ∈ addAll xs l ↔ z ∈ xs ∨ z ∈ l
  | [], l => by simp [addAll]
  | x :: xs, l => by
    simp only [addAll, addAll_mem z xs, addL_mem, List.mem_cons]
    constructor
    · rintro (h | h | h)
      · exact .inl (.inr h)
      · exact .inl (.inl h)
      · exact .inr h
    · rintro ((h | h) | h)
      · exact .inr (.inl h)
      · exact .inl h
      · exact .inr (.inr h)
theorem addAll_nd : ∀ (xs l : List Str), l.Nodup → (addAll xs l).Nodup
  | [], l, h => h
  | x :: xs, l, h => addAll_nd xs _ (addL_nd x l h)
theorem addAll_dedup (xs : List Str) : (addAll xs []).Perm (dedupS xs) :=
  (List.perm_ext_iff_of_nodup (addAll_nd xs [] List.Pairwise.nil) (dedup_nd xs)).mpr fun z => by rw [addAll_mem, dedup_mem]; simp
theorem sorted_set_is {ys zs : List Str} (h : ys.Perm (addAll zs [])) (s : sortedS ys = true) : ys = sortStr (dedupS zs) := sorted_is (h.trans (addAll_dedup zs)) s

/-! ### the rules -/
section
variable {G : Glb} {M : Mach} {W : WX} {X : Cx} {k : Nat} {a : Expr} {ca : E} {pos p p2 pos2 : Pos}
/-- sorted(xs), texts -/
theorem pf_srt (g : Good G k X) (hg : Gl X "sorted") (hm : X.mg "sorted" = none) (ha : PE X a (tE G M W ca)) (hs : starEach [a] X.env = [(false, eval a X.env)] := by rfl) (he : starEach [a] X.env = (false, eval a X.env) :: starEach [] X.env := by rfl) (hpl : (backTo pos (starEach [] X.env)).any (·.1) = false := by rfl) : PE X (.Call (.Name "sorted" p) [a] [] pos) (tF G M W (.srt ca)) :=
  (pe_callB cr_sortedS hg hm rfl (pa_one1 ha hs) (by decide) (by decide) he hpl).imp fun σ H Q ⟨ρ, η, S, s, r, h⟩ => ⟨ρ, η, S, s, r, by
    simp only [evf] at h
    refine (PR.bind h).mono fun ρ1 H1 x S1 st s1 h1 v hv => ?_
    unfold srtop at h1
    cases el : lstOf S1 x with
    | none => rw [el] at h1; exact h1.elim
    | some xs =>
      rw [el] at h1
      simp only [Option.bind] at h1
      cases es : allS xs with
      | none => rw [es] at h1; exact h1.elim
      | some zs =>
        rw [es] at h1
        simp only at h1
        by_cases h64 : zs.length < 64
        · rw [if_pos h64] at h1
          obtain ⟨b, vs, rfl, hb, hvs⟩ := lst_of s1 hv el
          have e := hvs.strs es
          subst e
          exact ⟨b, zs, rfl, .inl hb, h64, fun ys q py sy hq => okF_new s st s1 h1 hq fun ρ' st' => ⟨_, upd_same, by rw [sorted_is py sy]; exact VRs.map_str⟩⟩
        · rw [if_neg h64] at h1; exact h1.elim⟩
/-- sorted(set(xs)), texts -/
theorem pf_sset (g : Good G k X) (hg : Gl X "sorted") (hm : X.mg "sorted" = none) (hg2 : Gl X "set") (hm2 : X.mg "set" = none) (ha : PE X a (tE G M W ca)) (hs : starEach [a] X.env = [(false, eval a X.env)] := by rfl) (he : starEach [a] X.env = (false, eval a X.env) :: starEach [] X.env := by rfl) (hpl : (backTo pos2 (starEach [] X.env)).any (·.1) = false := by rfl)
    (hs2 : starEach [.Call (.Name "set" p2) [a] [] pos2] X.env = [(false, eval (.Call (.Name "set" p2) [a] [] pos2) X.env)] := by rfl) (he2 : starEach [.Call (.Name "set" p2) [a] [] pos2] X.env = (false, eval (.Call (.Name "set" p2) [a] [] pos2) X.env) :: starEach [] X.env := by rfl) (hpl2 : (backTo pos (starEach [] X.env)).any (·.1) = false := by rfl) :
    PE X (.Call (.Name "sorted" p) [.Call (.Name "set" p2) [a] [] pos2] [] pos) (tF G M W (.sset ca)) :=
  (pe_callB (cr_sortT g.calm) hg hm rfl (pa_cons (pe_callTy (cr_setT g.calm) hg2 hm2 rfl (pa_one1 ha hs) (by decide) (by decide) he hpl) pa_nil (by rw [hs2]; rfl)) (by decide) (by decide) he2 hpl2).imp fun σ H Q ⟨ρ, η, S, s, r, h⟩ => ⟨ρ, η, S, s, r, by
    simp only [evf] at h
    refine (PR.bind h).mono fun ρ1 H1 x S1 st s1 h1 v hv => ?_
    cases el : lstOf S1 x with
    | none => rw [el] at h1; exact h1.elim
    | some xs =>
      rw [el] at h1
      simp only [Option.bind] at h1
      cases es : allS xs with
      | none => rw [es] at h1; exact h1.elim
      | some zs =>
        rw [es] at h1
        simp only at h1
        by_cases h64 : zs.length < 64
        · rw [if_pos h64] at h1
          obtain ⟨b, vs, rfl, hb, hvs⟩ := lst_of s1 hv el
          have e := hvs.strs es
          subst e
          have hsc : (65 : Nat) < scanBound := by decide
          have hlen := addAll_len zs []
          simp only [List.length_nil, Nat.add_zero] at hlen
          refine ⟨b, zs, rfl, .inl hb, by omega, fun D hD => ⟨D, addAll zs [], rfl, upd_same, by omega, fun ys q py sy hq => ?_⟩⟩
          have st2 : Step ρ1 H1 ρ1 (upd H1 D (SetTO X.prog X.w D (addAll zs []))) := stepSame (same_new hD)
          exact okF_new s (st.trans st2) (s1.same (same_new hD)) (PR.step h1 st2) hq fun ρ' st' => ⟨_, upd_same, by rw [sorted_set_is py sy]; exact VRs.map_str⟩
        · rw [if_neg h64] at h1; exact h1.elim⟩
/-- sorted of a comprehension of two clauses -/
theorem pf_scomp2 {own vs1 : List Nat} {ce : E} {t t1 : Tg} {src src1 : Src} {ci ci1 : Es} (g : Good G k X) (hg : Gl X "sorted") (hm : X.mg "sorted" = none) (ha : PE X a (tSC G M W X.prog X.w own ce t src ci vs1 t1 src1 ci1)) (hs : starEach [a] X.env = (false, eval a X.env) :: starEach [] X.env := by rfl) (hpl : (backTo pos (starEach [] X.env)).any (·.1) = false := by rfl) :
    PE X (.Call (.Name "sorted" p) [a] [] pos) (tF G M W (.scomp2 own ce t src ci vs1 t1 src1 ci1)) :=
  (pe_callB (cr_sortT g.calm) hg hm rfl (pa_cons ha pa_nil (by rw [hs])) (by decide) (by decide) hs hpl).imp fun σ H Q ⟨ρ, η, S, s, r, h⟩ => ⟨ρ, η, S, s, r, by
    have h' : PR G W σ ρ H ((evS M src η S).bind fun p S1 => (compS (sc2step M own ce t ci vs1 t1 src1 ci1 η) p.1 p.2 S1).bind fun zs S2 => if zs.length < 64 then (.ok (.lst ((sortStr (dedupS zs)).map .str)) S2 : Res Ob) else .bad) (okF G H Q) := h
    refine PR.re2 h' fun ρ1 H1 p zs S1 st s1 h1 => ?_
    by_cases h64 : zs.length < 64
    · rw [if_pos h64] at h1
      have hlen := addAll_len zs []
      simp only [List.length_nil, Nat.add_zero] at hlen
      refine ⟨h64, fun D hD hDn hH => ⟨D, addAll zs [], rfl, hH, by omega, fun ys q py sy hq => ?_⟩⟩
      exact okF_new s st s1 h1 hq fun ρ' st' => ⟨_, upd_same, by rw [sorted_set_is py sy]; exact VRs.map_str⟩
    · rw [if_neg h64] at h1; exact h1.elim⟩
end
end Oz
set_option Elab.async false
set_option linter.all false
set_option maxRecDepth 100000
set_option maxHeartbeats 4000000
set_option autoImplicit false
/-! Oz: comparisons, built-ins, methods of lists, join, repetition, displays, isinstance. -/
namespace Oz
open PySem L2 PyProof.Rows

section
variable {G : Glb} {M : Mach} {W : WX} {X : Cx} {k : Nat} {a b : Expr} {ca cb : E} {p pos apos : Pos} {es : List Expr} {ces : Es}
theorem pe_cmpi (g : Good G k X) (op : CmpOp) (ha : PE X a (tE G M W ca)) (hb : PE X b (tE G M W cb)) (hm : behindInMarks op b = false) : PE X (.Compare a [op] [b] pos) (tE G M W (.cmp op ca cb)) :=
  (pe_cmpR (op_cmp g op) ha hb hm).imp fun σ H Q ⟨ρ, η, S, s, r, h⟩ => ⟨ρ, η, S, s, r, by
    simp only [ev] at h
    refine (PR.bind h).mono fun ρ1 H1 x S1 st1 s1 h1 v hv => ⟨ρ1, η, S1, s1, r.step st1, (PR.bind h1).mono fun ρ2 H2 y S2 st2 s2 h2 w hw => ?_⟩
    obtain ⟨z, e, h3⟩ := (PR.bind h2).ofO
    exact ⟨ρ2, S2, x, y, z, s2, hv.step st2, hw, e, (h3.here s2).here s2 _ (by simp only [VR])⟩⟩
theorem pt_cmpi (g : Good G k X) (op : CmpOp) (ha : PE X a (tE G M W ca)) (hb : PE X b (tE G M W cb)) (hm : behindInMarks op b = false) : PT X (.Compare a [op] [b] pos) (tQ G M W (.cmp op ca cb)) :=
  (pt_cmpR (op_cmp g op) ha hb hm).imp fun σ H Q ⟨ρ, η, S, s, r, h⟩ => ⟨ρ, η, S, s, r, by
    simp only [ev] at h
    refine (PR.bind h).mono fun ρ1 H1 x S1 st1 s1 h1 v hv => ⟨ρ1, η, S1, s1, r.step st1, (PR.bind h1).mono fun ρ2 H2 y S2 st2 s2 h2 w hw => ?_⟩
    obtain ⟨z, e, h3⟩ := (PR.bind h2).ofO
    obtain ⟨d, e2, q⟩ := (h3.here s2).here s2
    exact ⟨ρ2, S2, x, y, z, s2, hv.step st2, hw, e, _, rfl, by cases e2; exact q⟩⟩

/-! ### built-ins of one argument -/
def B1.nm : B1 → Str
  | .len => "len" | .all => "all" | .any => "any" | .tuple => "tuple" | .repr => "repr" | .str => "str" | .int => "int" | .sum => "sum"
theorem tB1 (f : B1) (σ : L2.St) (H : Hp) (Q : VK) (h : tE G M W (.b1 f ca) σ H Q) : tCB (rB1 G f) (tCons (tE G M W ca) tNil) σ H Q := by
  obtain ⟨ρ, η, S, s, r, h⟩ := h
  simp only [ev] at h
  refine ⟨ρ, η, S, s, r, (PR.bind h).mono fun ρ1 H1 x S1 st1 s1 h1 v hv => ?_⟩
  obtain ⟨z, e, h2⟩ := h1.ofO
  exact ⟨ρ1, S1, x, z, v, rfl, s1, hv, e, h2⟩
theorem pe_b1i (g : Good G k X) (f : B1) (hg : Gl X f.nm) (hm : X.mg f.nm = none) (ha : PE X a (tE G M W ca)) (hs : starEach [a] X.env = [(false, eval a X.env)] := by rfl) (he : starEach [a] X.env = (false, eval a X.env) :: starEach [] X.env := by rfl) (hpl : (backTo pos (starEach [] X.env)).any (·.1) = false := by rfl) :
    PE X (.Call (.Name f.nm p) [a] [] pos) (tE G M W (.b1 f ca)) := by
  have hA := pa_one1 (M := M) (W := W) ha hs
  cases f with
  | len => exact (pe_callB (id := "len") (cr_b1 g .len) hg hm (by decide +kernel) hA (by decide) (by decide) he hpl).imp (tB1 .len)
  | all => exact (pe_callB (id := "all") (cr_b1 g .all) hg hm (by decide +kernel) hA (by decide) (by decide) he hpl).imp (tB1 .all)
  | any => exact (pe_callB (id := "any") (cr_b1 g .any) hg hm (by decide +kernel) hA (by decide) (by decide) he hpl).imp (tB1 .any)
  | repr => exact (pe_callB (id := "repr") (cr_b1 g .repr) hg hm (by decide +kernel) hA (by decide) (by decide) he hpl).imp (tB1 .repr)
  | sum => exact (pe_callB (id := "sum") (cr_b1 g .sum) hg hm (by decide +kernel) hA (by decide) (by decide) he hpl).imp (tB1 .sum)
  | tuple => exact (pe_callTy (T := "tuple") (cr_b1 g .tuple) hg hm (by decide +kernel) hA (by decide) (by decide) he hpl).imp (tB1 .tuple)
  | str => exact (pe_callTy (T := "str") (cr_b1 g .str) hg hm (by decide +kernel) hA (by decide) (by decide) he hpl).imp (tB1 .str)
  | int => exact (pe_callTy (T := "int") (cr_b1 g .int) hg hm (by decide +kernel) hA (by decide) (by decide) he hpl).imp (tB1 .int)

/-! ### methods that change a list -/
def Mm.rule : Mm → V → List V → Hp → VK → Prop
  | .append => rAppend | .pop => rPop | .popAt => rPopAt | .clear => rClear
  | _ => fun _ _ _ _ => False
def Mm.nm : Mm → Str
  | .append => "append" | .pop => "pop" | .popAt => "pop" | .clear => "clear" | .extend => "extend" | .insert => "insert"
theorem VRs.dropLast {ρ : List Addr} {H : Hp} {xs : List Vl} {vs : List V} (h : VRs G ρ H xs vs) : VRs G ρ H xs.dropLast vs.dropLast := by
  rw [List.dropLast_eq_take, List.dropLast_eq_take, h.length]
  exact h.take _
theorem VRs.erase {ρ : List Addr} {H : Hp} : ∀ {xs : List Vl} {vs : List V} (i : Nat), VRs G ρ H xs vs → VRs G ρ H (xs.eraseIdx i) (vs.eraseIdx i)
  | [], vs, i, h => by simp only [VRs] at h; subst h; exact VRs.nil
  | x :: xs, vs, 0, h => by simp only [VRs] at h; obtain ⟨v, r, rfl, _, h2⟩ := h; exact h2
  | x :: xs, vs, i + 1, h => by simp only [VRs] at h; obtain ⟨v, r, rfl, h1, h2⟩ := h; exact VRs.cons h1 (VRs.erase i h2)
theorem mut_of {ρ : List Addr} {H : Hp} (m : Mm) {ys xs zs : List Vl} {v : Vl} {l : Addr} {vs as : List V} {Q : VK} (e : mutop m ys xs = some (v, zs)) (hl : H l = some (.lst vs)) (hy : VRs G ρ H ys vs) (hx : VRs G ρ H xs as)
    (q : ∀ w ws, VR G ρ H v w → VRs G ρ H zs ws → Q w (upd H l (.lst ws))) : m.rule (.ref l) as H Q := by
  unfold mutop at e
  split at e
  · rename_i y
    split at e
    · rename_i hz
      simp only [Option.some.injEq, Prod.mk.injEq] at e
      obtain ⟨rfl, rfl⟩ := e
      simp only [VRs] at hx
      obtain ⟨w, r, rfl, hw, rfl⟩ := hx
      exact ⟨l, vs, w, rfl, rfl, hl, by rw [← hy.length]; exact hz, q _ _ (by simp only [VR]) (hy.append (VRs.cons hw VRs.nil))⟩
    · cases e
  · split at e
    · rename_i y ey
      simp only [Option.some.injEq, Prod.mk.injEq] at e
      obtain ⟨rfl, rfl⟩ := e
      simp only [VRs] at hx
      subst hx
      obtain ⟨w, e1, e2⟩ := hy.get ey
      exact ⟨l, vs, w, rfl, rfl, hl, by rw [← hy.length]; exact e1, q _ _ e2 hy.dropLast⟩
    · cases e
  · rename_i i
    split at e
    · rename_i hi
      obtain ⟨n, e1, e2⟩ := Option.bind_eq_some_iff.mp e
      obtain ⟨y, e3, e4⟩ := Option.map_eq_some_iff.mp e2
      simp only [Prod.mk.injEq] at e4
      obtain ⟨rfl, rfl⟩ := e4
      simp only [VRs, VR] at hx
      obtain ⟨w, r, rfl, rfl, rfl⟩ := hx
      obtain ⟨w, g1, g2⟩ := hy.get e3
      exact ⟨l, vs, i, n, w, rfl, rfl, hl, hi.1, hi.2, by rw [← hy.length]; exact e1, g1, q _ _ g2 (hy.erase n)⟩
    · cases e
  · simp only [Option.some.injEq, Prod.mk.injEq] at e
    obtain ⟨rfl, rfl⟩ := e
    simp only [VRs] at hx
    subst hx
    exact ⟨l, vs, rfl, rfl, hl, q _ _ (by simp only [VR]) VRs.nil⟩
  · cases e
theorem lstAt_ref {S : Hs} {x : Vl} {r : Nat} (h : lstAt S x = some r) : x = .ref r ∧ ∃ ys, S[r]? = some (.lst ys) := by
  unfold lstAt at h
  split at h
  · split at h
    · rename_i ys e; cases h; exact ⟨rfl, ys, e⟩
    · cases h
  · cases h
theorem put_lst {ρ : List Addr} {H : Hp} {S : Hs} {r : Nat} {l : Addr} {zs : List Vl} {ws : List V} (s : Sim G ρ H S) (hr : ρ[r]? = some l) (hz : VRs G ρ H zs ws) : Step ρ H ρ (upd H l (.lst ws)) ∧ Sim G ρ (upd H l (.lst ws)) (S.set r (.lst zs)) := by
  have st : Step ρ H ρ (upd H l (.lst ws)) := ⟨List.prefix_refl _, fun b o hb hn => by
    rw [upd_ne fun e => hn (by subst e; exact List.mem_of_getElem? hr)]; exact hb, fun b hb => .inl hb⟩
  exact Sim.put s hr ⟨ws, upd_same, VRs.step st _ _ hz⟩
theorem tMut (m : Mm) (g : Good G k X) (σ : L2.St) (H : Hp) (Q : VK) (h : tE G M W (.mut m ca ces) σ H Q) : tBM X.K "list" m.rule (tE G M W ca) (tA G M W ces) σ H Q := by
  obtain ⟨ρ, η, S, s, r, h⟩ := h
  simp only [ev] at h
  refine ⟨ρ, η, S, s, r, (PR.bind h).mono fun ρ1 H1 x S1 st1 s1 h1 v hv => ?_⟩
  cases el : lstAt S1 x with
  | none => rw [el] at h1; exact h1.elim
  | some n =>
    rw [el] at h1
    obtain ⟨rfl, ys0, e0⟩ := lstAt_ref el
    obtain ⟨l, rfl, hl, vs0, hl0, _⟩ := s1.ref hv e0
    refine ⟨.inl ⟨rfl, vs0, SqL.of hl0⟩, ρ1, η, S1, s1, r.step st1, (PR.bind h1).mono fun ρ2 H2 xs S2 st2 s2 h2 as ha => ?_⟩
    split at h2
    · rename_i ys ey
      split at h2
      · rename_i v zs em
        obtain ⟨l', e', hl', vs, hv2, hvs⟩ := s2.ref (hv.step st2) ey
        cases e'
        refine mut_of m em hv2 hvs ha fun w ws hw hz => ?_
        obtain ⟨st3, s3⟩ := put_lst s2 hl' hz
        exact h2 ρ2 _ st3 s3 w (hw.step st3)
      · exact h2.elim
    · exact h2.elim
theorem tMut0 (m : Mm) (g : Good G k X) (σ : L2.St) (H : Hp) (Q : VK) (h : tE G M W (.mut m ca .nil) σ H Q) : tBM0 X.K "list" m.rule (tE G M W ca) σ H Q := by
  obtain ⟨ρ, η, S, s, r, h⟩ := h
  simp only [ev] at h
  refine ⟨ρ, η, S, s, r, (PR.bind h).mono fun ρ1 H1 x S1 st1 s1 h1 v hv => ?_⟩
  cases el : lstAt S1 x with
  | none => rw [el] at h1; exact h1.elim
  | some n =>
    rw [el] at h1
    obtain ⟨rfl, ys0, e0⟩ := lstAt_ref el
    obtain ⟨l, rfl, hl, vs0, hl0, hvs0⟩ := s1.ref hv e0
    refine ⟨.inl ⟨rfl, vs0, SqL.of hl0⟩, ?_⟩
    simp only [evs, Res.bind] at h1
    rw [e0] at h1
    simp only at h1
    split at h1
    · rename_i v zs em
      refine mut_of m em hl0 hvs0 VRs.nil fun w ws hw hz => ?_
      obtain ⟨st3, s3⟩ := put_lst s1 hl hz
      exact h1 ρ1 _ st3 s3 w (hw.step st3)
    · exact h1.elim
section
variable {e : Expr}
theorem pe_muti (g : Good G k X) (m : Mm) (hm : m = .append ∨ m = .popAt) (ha : PE X a (tE G M W ca)) (hes : PA X (e :: es) (tA G M W ces)) (hbase : attributeBase a m.nm X.env (eval a X.env) = eval a X.env := by rfl)
    (hfew : ((backTo pos (starEach (e :: es) X.env)).all (fun x => !x.1) && (backToKw pos (keywordEach [] X.env)).all (fun x => x.1.isSome)
      && decide ((e :: es).length + ([] : List Keyword).length + (if ([] : List Keyword).isEmpty then 0 else 1) < 30)) = true := by rfl)
    (hline : (apos.endLine == pos.line) = true := by rfl) (hs : starEach (e :: es) X.env = (false, eval e X.env) :: starEach es X.env := by rfl) (hplain : (backTo pos (starEach es X.env)).any (·.1) = false := by rfl) :
    PE X (.Call (.Attribute a m.nm apos) (e :: es) [] pos) (tE G M W (.mut m ca ces)) := by
  rcases hm with rfl | rfl
  · exact (pe_bm F.plainAttrs_list F.slot_list_append F.type_list_append mt_append ha hes hbase hfew hline hs hplain).imp (tMut .append g)
  · exact (pe_bm F.plainAttrs_list F.slot_list_pop F.type_list_pop mt_popAt ha hes hbase hfew hline hs hplain).imp (tMut .popAt g)
theorem pe_mut0i (g : Good G k X) (m : Mm) (hm : m = .pop ∨ m = .clear) (ha : PE X a (tE G M W ca)) (hbase : attributeBase a m.nm X.env (eval a X.env) = eval a X.env := by rfl) (hline : (apos.endLine == pos.line) = true := by rfl) :
    PE X (.Call (.Attribute a m.nm apos) [] [] pos) (tE G M W (.mut m ca .nil)) := by
  rcases hm with rfl | rfl
  · exact (pe_bm0 F.plainAttrs_list F.slot_list_pop F.type_list_pop mt_pop ha hbase hline).imp (tMut0 .pop g)
  · exact (pe_bm0 F.plainAttrs_list F.slot_list_clear F.type_list_clear mt_clear ha hbase hline).imp (tMut0 .clear g)
/-- z.join(xs) -/
theorem pe_joini (g : Good G k X) (ha : PE X a (tE G M W ca)) (hb : PE X b (tE G M W cb)) (hs : starEach [b] X.env = [(false, eval b X.env)] := by rfl) (hbase : attributeBase a "join" X.env (eval a X.env) = eval a X.env := by rfl) (hline : (apos.endLine == pos.line) = true := by rfl) :
    PE X (.Call (.Attribute a "join" apos) [b] [] pos) (tE G M W (.tm .join ca cb)) := (pe_join ha hb hs hbase hline).imp fun σ H Q ⟨ρ, η, S, s, r, h⟩ => ⟨ρ, η, S, s, r, by
  simp only [ev] at h
  refine (PR.bind h).mono fun ρ1 H1 x S1 st1 s1 h1 v hv => ?_
  cases x with
  | str z =>
    simp only [VR] at hv
    subst hv
    refine ⟨⟨z, rfl⟩, ρ1, η, S1, s1, r.step st1, (PR.bind h1).mono fun ρ2 H2 y S2 st2 s2 h2 w hw => ?_⟩
    obtain ⟨q, e, h3⟩ := h2.ofO
    unfold tmop at e
    simp only at e
    cases es : seqOf S2 y with
    | none => rw [es] at e; cases e
    | some xs =>
      rw [es] at e
      simp only [Option.bind] at e
      cases ea : allS xs with
      | none => rw [ea] at e; cases e
      | some zs =>
        rw [ea] at e
        simp only at e
        split at e
        · rename_i hz
          cases e
          obtain ⟨p, vs, rfl, h4, h5⟩ := seq_of s2 hw es
          have e6 := h5.strs ea
          subst e6
          exact ⟨z, p, zs, rfl, rfl, by rw [g.K]; exact h4, hz, h3.here s2 _ (by simp only [VR])⟩
        · cases e
  | _ => exact h1.elim⟩
end
/-- xs * n -/
theorem pf_rep (ha : PE X a (tE G M W ca)) (hb : PE X b (tE G M W cb)) : PE X (.BinOp a .Mult b pos) (tF G M W (.rep ca cb)) :=
  (pe_op op_rep ha hb).imp fun σ H Q ⟨ρ, η, S, s, r, h⟩ => ⟨ρ, η, S, s, r, by
    simp only [evf] at h
    refine (PR.bind h).mono fun ρ1 H1 x S1 st1 s1 h1 v hv => ⟨ρ1, η, S1, s1, r.step st1, (PR.bind h1).mono fun ρ2 H2 y S2 st2 s2 h2 w hw => ?_⟩
    split at h2
    · rename_i n xs i el ex
      split at h2
      · rename_i hz
        obtain ⟨rfl, ys, ey⟩ := lstAt_ref el
        simp only [lstOf, ey, Option.some.injEq] at ex
        subst ex
        obtain ⟨l, rfl, hl, vs, hl2, hvs⟩ := s2.ref (hv.step st2) ey
        simp only [VR] at hw
        subst hw
        exact ⟨l, i, vs, rfl, rfl, hl2, by omega, hz.2.1, by rw [← hvs.length]; exact hz.2.2, fun p hp => okF_new s (st1.trans st2) s2 h2 hp fun ρ' st' => ⟨_, upd_same, VRs.step st' _ _ (hvs.rep _)⟩⟩
      · exact h2.elim
    · exact h2.elim⟩
end
end Oz
set_option Elab.async false
set_option linter.all false
set_option maxRecDepth 100000
set_option maxHeartbeats 4000000
set_option autoImplicit false
/-! Oz: own methods, own len, own ==, classes that are called. -/
namespace Oz
open PySem L2 PyProof.Rows

section
variable {G : Glb} {k n : Nat} {X : Cx} {M : Mach} {W : WX} {f : Addr} {fd : FuncData} {ps : List Str} {ds : List Value} {q c m : Str} {a b e : Expr} {es : List Expr} {ca cb : E} {ces : Es} {p pos apos : Pos} {dxs : List Vl} {dvs : List V}
theorem hasM_of {ρ : List Addr} {H : Hp} {S : Hs} {x : Vl} {v : V} (s : Sim G ρ H S) (hv : VR G ρ H x v) (h : hasM S x c m = true) : ∃ a dx fs, v = .ref a ∧ H a = some (.ins (G.cl c) dx fs) ∧ fs.lookup m = none := by
  unfold hasM at h
  split at h
  · rename_i d ns vs ei
    rw [Bool.and_eq_true] at h
    have h1 : d = c := of_decide_eq_true h.1
    subst h1
    obtain ⟨a, dx, fs, rfl, h2, h3, _⟩ := ins_of s hv ei
    refine ⟨a, dx, fs, rfl, h2, ?_⟩
    have h4 : m ∉ ns := fun z => by
      have h5 := h.2
      rw [List.contains_iff_mem.mpr z] at h5
      cases h5
    rw [← h3] at h4
    exact List.lookup_eq_none_iff.mpr fun p hp => bne_iff_ne.mpr fun z => h4 (List.mem_map.mpr ⟨p, hp, z.symm⟩)
  · cases h
/-! ### o.m(..) -/
def tMc (X : Cx) (k n : Nat) (G : Glb) (M : Mach) (c m : Str) (W : WX) (ca : E) (ces : Es) (dxs : List Vl) : TE := fun σ H Q => ∃ ρ η S, Sim G ρ H S ∧ ER G ρ H η σ ∧ PR G W σ ρ H (ev M ca η S) fun ρ1 H1 x S1 => hasM S1 x c m = true ∧ PR G W σ ρ1 H1 (evs M ces η S1) fun ρ2 H2 xs S2 => xs.length + 1 + dxs.length = n ∧ PR G W σ ρ2 H2 (M.cal (dot c m) (x :: (xs ++ dxs)) S2) (okR G H2 Q)
theorem pe_mclE {pl : Sem Bool} (g : Good G (k + 1) X) (F : FnG X.prog X.w X.K X.mg X.base k f fd ps (spI G M n (dot c m))) (hC : Cls X.K (G.cl c)) (hm : Meth X.K (G.cl c) m f) (hb : Binds X.K fd ps ds) (hd : Vals dvs ds) (hc : Csts G dxs dvs) (tk : Takes X W)
    (ha : PE X a (tE G M W ca)) (hes : PA X (e :: es) (tA G M W ces)) (hst : starEach (e :: es) X.env = (false, eval e X.env) :: starEach es X.env := by rfl) (hpl : (backTo pos (starEach es X.env)).any (·.1) = false := by rfl)
    (ht : eval (.Call (.Attribute a m apos) (e :: es) [] pos) X.env = (do
      let ov ← eval a X.env
      standAt apos.atName
      let (f, first) ← holding [ov] (getMethod ov m pl)
      callWith pos f first (backTo pos (starEach (e :: es) X.env)) (backToKw pos (keywordEach [] X.env))) := by rfl) :
    PE X (.Call (.Attribute a m apos) (e :: es) [] pos) (tMc X k n G M c m W ca ces dxs) := by
  refine ⟨fun pins s σ H Q I ⟨ρ, η, S, s0, r, h⟩ => ?_⟩
  have hr : Room k X.A := g.room.mono (Nat.le_succ _)
  refine PySem.W.methodCall_KW (pl := pl) (thn (ha.run pins s σ H (fun v H1 => ∃ x ρ1 S1, Step ρ H ρ1 H1 ∧ Sim G ρ1 H1 S1 ∧ VR G ρ1 H1 x v ∧ hasM S1 x c m = true ∧ PR G W σ ρ1 H1 (evs M ces η S1) fun ρ2 H2 xs S2 => xs.length + 1 + dxs.length = n ∧ PR G W σ ρ2 H2 (M.cal (dot c m) (x :: (xs ++ dxs)) S2) (okR G H2 Q)) I ⟨ρ, η, S, s0, r, h.mono fun ρ1 H1 x S1 st1 s1 h1 v hv => ⟨x, ρ1, S1, st1, s1, hv, h1⟩⟩) fun u s1 ⟨v, H1, I1, rv, x, ρ1, S1, st1, sm1, hv, hM, hp⟩ => ?_) ht
  obtain ⟨a', dx, fs, rfl, ea, l⟩ := hasM_of sm1 hv hM
  obtain rfl : u = Value.ref a' := rv
  refine getmeth_ok I1 ea hC hm l ?_
  refine PySem.W.callWith_K (first := [.ref a']) (h₀ := X.base) I.ok.mod.kin hm.kp (thn (hes.run pos pins s1 σ H1 (fun vs H2 => ∃ xs ρ2 S2, Step ρ1 H1 ρ2 H2 ∧ Sim G ρ2 H2 S2 ∧ VRs G ρ2 H2 xs vs ∧ xs.length + 1 + dxs.length = n ∧ PR G W σ ρ2 H2 (M.cal (dot c m) (x :: (xs ++ dxs)) S2) (okR G H2 Q)) I1 ⟨ρ1, η, S1, sm1, r.step st1, hp.mono fun ρ2 H2 xs S2 st2 s2 h2 vs hv2 => ⟨xs, ρ2, S2, st2, s2, hv2, h2⟩⟩) fun us s2 ⟨vs, H2, I2, rvs, xs, ρ2, S2, st2, sm2, hvs, hl, hp2⟩ => ⟨I2.kIn, ?_⟩) hst hpl
  refine run_g (us := .ref a' :: us) (vs := .ref a' :: vs) F hr g.grd hb hd tk I2 (.cons rfl rvs) ⟨?_, ρ2, S2, x :: (xs ++ dxs), sm2, VRs.cons (hv.step st2) (hvs.append (hc _ _)), PR.exc_sig hp2⟩
  rw [List.length_append, List.length_cons, ← hvs.length, ← (hc ρ2 H2).length]; exact hl
theorem pe_mcl0 {pl : Sem Bool} (g : Good G (k + 1) X) (F : FnG X.prog X.w X.K X.mg X.base k f fd ps (spI G M n (dot c m))) (hC : Cls X.K (G.cl c)) (hm : Meth X.K (G.cl c) m f) (hb : Binds X.K fd ps ds) (hd : Vals dvs ds) (hc : Csts G dxs dvs) (tk : Takes X W)
    (ha : PE X a (tE G M W ca))
    (ht : eval (.Call (.Attribute a m apos) [] [] pos) X.env = (do
      let ov ← eval a X.env
      standAt apos.atName
      let (f, first) ← holding [ov] (getMethod ov m pl)
      callWith pos f first (backTo pos (starEach [] X.env)) (backToKw pos (keywordEach [] X.env))) := by rfl) :
    PE X (.Call (.Attribute a m apos) [] [] pos) (tMc X k n G M c m W ca .nil dxs) := by
  refine ⟨fun pins s σ H Q I ⟨ρ, η, S, s0, r, h⟩ => ?_⟩
  have hr : Room k X.A := g.room.mono (Nat.le_succ _)
  refine PySem.W.methodCall_KW (pl := pl) (thn (ha.run pins s σ H (fun v H1 => ∃ x ρ1 S1, Step ρ H ρ1 H1 ∧ Sim G ρ1 H1 S1 ∧ VR G ρ1 H1 x v ∧ hasM S1 x c m = true ∧ PR G W σ ρ1 H1 (evs M .nil η S1) fun ρ2 H2 xs S2 => xs.length + 1 + dxs.length = n ∧ PR G W σ ρ2 H2 (M.cal (dot c m) (x :: (xs ++ dxs)) S2) (okR G H2 Q)) I ⟨ρ, η, S, s0, r, h.mono fun ρ1 H1 x S1 st1 s1 h1 v hv => ⟨x, ρ1, S1, st1, s1, hv, h1⟩⟩) fun u s1 ⟨v, H1, I1, rv, x, ρ1, S1, st1, sm1, hv, hM, hp⟩ => ?_) ht
  obtain ⟨a', dx, fs, rfl, ea, l⟩ := hasM_of sm1 hv hM
  obtain rfl : u = Value.ref a' := rv
  simp only [evs] at hp
  obtain ⟨hl, hp2⟩ := hp.here sm1
  refine getmeth_ok I1 ea hC hm l ?_
  refine PySem.W.callWith_K0 (first := [.ref a']) I1.kIn hm.kp (run_g (us := [.ref a']) (vs := [.ref a']) F hr g.grd hb hd tk I1 (.cons rfl .nil) ⟨?_, ρ1, S1, x :: dxs, sm1, VRs.cons hv (hc _ _), PR.exc_sig hp2⟩)
  simp only [List.length_nil] at hl
  rw [List.length_append, ← (hc ρ1 H1).length]
  simp only [List.length_cons, List.length_nil]
  omega
theorem tMc_val {σ : L2.St} {H : Hp} {Q : VK} (hn : ces.len + 1 + dxs.length = n) (h : tE G M W (.mcl c m ca (ces.app dxs)) σ H Q) : tMc X k n G M c m W ca ces dxs σ H Q := by
  obtain ⟨ρ, η, S, s0, r, h⟩ := h
  simp only [ev] at h
  refine ⟨ρ, η, S, s0, r, (PR.bind h).mono fun ρ1 H1 x S1 st1 s1 h1 => ?_⟩
  split at h1
  · rename_i hM
    refine ⟨hM, ?_⟩
    rw [evs_app] at h1
    cases e : evs M ces η S1 with
    | ok xs S2 =>
      rw [e] at h1
      simp only [Res.bind] at h1
      exact fun ρ2 H2 st s => ⟨by rw [evs_len _ _ _ _ _ e]; exact hn, PR.callV s1 st s (PR.step h1 st)⟩
    | exc x S2 => rw [e] at h1; exact h1
    | bad => rw [e] at h1; exact h1
  · exact h1.elim
theorem tMc_frs {σ : L2.St} {H : Hp} {Q : VK} (hn : ces.len + 1 + dxs.length = n) (h : tF G M W (.mcl c m ca (ces.app dxs)) σ H Q) : tMc X k n G M c m W ca ces dxs σ H Q := by
  obtain ⟨ρ, η, S, s0, r, h⟩ := h
  simp only [evf] at h
  refine ⟨ρ, η, S, s0, r, (PR.bind h).mono fun ρ1 H1 x S1 st1 s1 h1 => ?_⟩
  split at h1
  · rename_i hM
    refine ⟨hM, ?_⟩
    rw [evs_app] at h1
    cases e : evs M ces η S1 with
    | ok xs S2 =>
      rw [e] at h1
      simp only [Res.bind] at h1
      exact fun ρ2 H2 st s => ⟨by rw [evs_len _ _ _ _ _ e]; exact hn, PR.callF s0 (st1.trans st) s (PR.step h1 st)⟩
    | exc x S2 => rw [e] at h1; exact h1
    | bad => rw [e] at h1; exact h1
  · exact h1.elim

/-! ### a call from within a built-in -/
theorem run_in {A : Around} {pins : List (Addr × Obj)} {σ : L2.St} {H : Hp} {s : Shared} {Q : VK} {us : List Value} {vs : List V} {sp : Sp} {E' : Value → Shared → Prop} (F : FnG X.prog X.w X.K X.mg X.base k f fd ps sp) (hr : Room k A) (hg : A.guards = some []) (hfr : A.frames = X.A.frames) (hb : Binds X.K fd ps [])
    (I : Inv X pins σ H s) (r : Vals vs us) (h : sp vs H Q (fun _ _ _ => False)) : wpAny (model X.prog X.w) A (call (.ref f) us) (EP X pins σ Q) E' s := by
  have len : us.length = ps.length := r.length.symm.trans (F.len _ _ _ _ h)
  have e0 : Env0 X.prog X.w X.K X.mg X.base A X.stack s H := by
    have e := I.env0
    exact ⟨hfr.trans e.frames, e.mod, e.bs, e.bsz, e.funs, e.frf, e.hok, e.bare⟩
  have hb' := hb s us I.kIn (by simpa using len)
  rw [List.append_nil] at hb'
  refine wpAny_call (codeAny_mono (F.run A X.stack s H ⟨us, []⟩ us vs Q _ hr hg e0 hb' r h) ?_)
  intro r' s' hq
  match r', hq with
  | .error e, hq => obtain ⟨_, _, _, _, _, _, _, _, _, _, _, _, hE⟩ := hq; exact hE.elim
  | .ok (.ret u), hq => exact I.after hq
  | .ok .next, hq => exact hq.elim
  | .ok .brk, hq => exact hq.elim
  | .ok .cont, hq => exact hq.elim
theorem noX_ok {α : Type} {ρ : List Addr} {H : Hp} {σ : L2.St} {r : Res α} {ok : List Addr → Hp → α → Hs → Prop} (h : PR G W σ ρ H (noX r) ok) : PR G (fun _ _ _ _ => False) [] ρ H r ok := by
  cases r with
  | ok a S => exact h
  | exc x S => exact h.elim
  | bad => exact h
theorem calV_ok {ρ : List Addr} {H : Hp} {S : Hs} {σ : L2.St} {W' : WX} {xs : List Vl} {ok : List Addr → Hp → Vl → Hs → Prop} {Q : VK} (s0 : Sim G ρ H S) (h : PR G W' σ ρ H (calV M q xs S) ok) (hQ : ∀ ρ' H' x S' v, Step ρ H ρ' H' → Sim G ρ' H' S' → ok ρ' H' x S' → VR G ρ' H' x v → Q v H') : PR G W' σ ρ H (M.cal q xs S) (okR G H Q) :=
  PR.callV s0 (Step.refl _ _) s0 (h.mono fun ρ' H' x S' st s' h' v hv => hQ ρ' H' x S' v st s' h' hv)
/-! ### len(o) -/
def rLenO (G : Glb) (M : Mach) (c : Str) : List V → Hp → VK → Prop := fun xs H Q => ∃ ρ S x v, xs = [v] ∧ Sim G ρ H S ∧ VR G ρ H x v ∧ hasM S x c "__len__" = true ∧ PR G (fun _ _ _ _ => False) [] ρ H (calV M (dot c "__len__") [x] S) fun _ H' z _ => ∃ n, z = .int n ∧ 0 ≤ n ∧ n < 2 ^ 63 ∧ Q (.int n) H'
theorem cr_lenO (g : Good G (k + 1) X) (F : FnG X.prog X.w X.K X.mg X.base k f fd ps (spI G M 1 (dot c "__len__"))) (hs : PySem.W.findIn X.K (.ref (G.cl c)) "__len__" = some (some (.ref f))) (hf : PySem.W.isFn X.K (.ref f) = true) (hb : Binds X.K fd ps []) : CallR X (.builtin "len") (rLenO G M c) := by
  intro pins s σ H xs us Q I r h
  obtain ⟨ρ, S, x, v, rfl, s0, hv, hM, hp⟩ := h
  obtain ⟨a', dx, fs, rfl, ea, l⟩ := hasM_of s0 hv hM
  rw [Vals.ref1 r]
  obtain ⟨mA, J, _⟩ := ins_get I.hok ea
  obtain ⟨od, J, _⟩ := J.look
  obtain ⟨m', hF⟩ := I.fr
  refine PySem.W.len_K hF I.ok.mod.kin J hs hf (wpAny_mono (run_in (vs := [.ref a']) (E' := X.xe) (A := X.A.in1) (Q := fun z H' => ∃ n, z = .int n ∧ 0 ≤ n ∧ n < 2 ^ 63 ∧ Q (.int n) H') F g.room.in1 g.grd rfl hb I (.cons rfl .nil) ⟨rfl, ρ, S, [x], s0, VRs.cons hv VRs.nil, ?_⟩) (fun u s1 ⟨z, H1, I1, rz, n, ez, h0, h1, q⟩ => ?_) fun _ _ z => z)
  · exact calV_ok s0 hp fun ρ' H' x S' v st s' ⟨n, e, h0, h1, q⟩ hv => by
      subst e
      simp only [VR] at hv
      exact ⟨n, hv, h0, h1, q⟩
  · subst ez
    obtain ⟨t, rfl⟩ := rz
    exact ⟨⟨h0, h1⟩, .int n, H1, I1.tok _, ⟨_, rfl⟩, q⟩
theorem pe_olen (g : Good G (k + 1) X) (F : FnG X.prog X.w X.K X.mg X.base k f fd ps (spI G M 1 (dot c "__len__"))) (hs : PySem.W.findIn X.K (.ref (G.cl c)) "__len__" = some (some (.ref f))) (hf : PySem.W.isFn X.K (.ref f) = true) (hb : Binds X.K fd ps []) (hg : Gl X "len") (hm : X.mg "len" = none) (ha : PE X a (tE G M W ca)) (hs1 : starEach [a] X.env = [(false, eval a X.env)] := by rfl) (he : starEach [a] X.env = (false, eval a X.env) :: starEach [] X.env := by rfl) (hpl : (backTo pos (starEach [] X.env)).any (·.1) = false := by rfl) :
    PE X (.Call (.Name "len" p) [a] [] pos) (tE G M W (.olen c ca)) := (pe_callB (cr_lenO g F hs hf hb) hg hm (by decide +kernel) (pa_one1 ha hs1) (by decide) (by decide) he hpl).imp fun σ H Q ⟨ρ, η, S, s, r, h⟩ => ⟨ρ, η, S, s, r, by
  simp only [ev] at h
  refine (PR.bind h).mono fun ρ1 H1 x S1 st1 s1 h1 v hv => ?_
  split at h1
  · rename_i hM
    refine ⟨ρ1, S1, x, v, rfl, s1, hv, hM, noX_ok ((PR.bind h1).mono fun ρ2 H2 z S2 st2 s2 h2 => ?_)⟩
    split at h2
    · split at h2
      · rename_i hn
        exact ⟨_, rfl, hn.1, hn.2, h2.here s2 _ (by simp only [VR])⟩
      · exact h2.elim
    · exact h2.elim
  · exact h1.elim⟩
/-! ### o == p, o != p -/
theorem looks_ty {Mo : Model} {h : Heap} {y : Addr} {o : Obj} (ho : h.get? y = some o) : PySem.W.Looks Mo h (typeOf (.ref y)) o.cls := (PySem.W.Looks.ld ho).andThen .now
theorem eqY_looks {Mo : Model} {pins : List (Addr × Obj)} {σ : L2.St} {s : Shared} {ρ : List Addr} {H : Hp} {S : Hs} {y : Vl} {w : V} {u : Value} (g : Good G k X) (I : Inv X pins σ H s) (s0 : Sim G ρ H S) (hw : VR G ρ H y w) (ru : RelV w u) (h : eqY S c y = true) :
    PySem.W.Looks Mo s.heap (typeOf u) (.ref (G.cl c)) ∨ ∃ T : String, (T = "list" ∨ T = "str" ∨ T = "tuple") ∧ PySem.W.Looks Mo s.heap (typeOf u) (.type T) := by
  unfold eqY at h
  split at h
  · rename_i d ns vs ei
    have h1 : d = c := of_decide_eq_true h
    subst h1
    obtain ⟨a, dx, fs, rfl, h2, _⟩ := ins_of s0 hw ei
    cases ru
    obtain ⟨mA, J, _⟩ := ins_get I.hok h2
    obtain ⟨od, J, _⟩ := J.look
    exact .inl J.type
  · rename_i ei
    split at h
    · simp only [VR] at hw
      subst hw
      obtain ⟨t, rfl⟩ := ru
      exact .inr ⟨"str", .inr (.inl rfl), PySem.W.Looks.of_pure rfl⟩
    · rename_i xs
      simp only [VR] at hw
      obtain ⟨a, vs, rfl, h1, h2⟩ := hw
      cases ru
      obtain ⟨its, _, ⟨o, ho, hcl, _⟩, _⟩ := I.tuple (a := a) (xs := vs) (by rw [g.K]; exact h1.sq)
      exact .inr ⟨"tuple", .inr (.inr rfl), by rw [← hcl]; exact looks_ty ho⟩
    · obtain ⟨xs, ex⟩ := Option.isSome_iff_exists.mp h
      obtain ⟨a, vs, rfl, h1, _⟩ := lst_of s0 hw ex
      cases ru
      obtain ⟨its, _, ⟨o, n, ho, hcl, _⟩, _⟩ := I.list (a := a) (xs := vs) (.inl h1)
      exact .inr ⟨"list", .inl rfl, by rw [← hcl]; exact looks_ty ho⟩
/-- what == and != of instances ask of the class -/
structure EqC (K : PySem.W.Frag) (C f : Addr) : Prop where
  eq : PySem.W.findIn K (.ref C) "__eq__" = some (some (.ref f))
  fn : PySem.W.isFn K (.ref f) = true
  ne : PySem.W.findIn K (.ref C) "__ne__" = some (some (.builtin "object.__ne__"))
  ob : PySem.W.mroIn K C (.type "object") = some true
  nf : ∀ T : String, T = "list" ∨ T = "str" ∨ T = "tuple" → PySem.W.notFirst K C (.type T) = true
def rOeq (G : Glb) (M : Mach) (c : Str) (ng : Bool) : R2 := fun x y H Q => ∃ ρ S a b, Sim G ρ H S ∧ VR G ρ H a x ∧ VR G ρ H b y ∧ hasM S a c "__eq__" = true ∧ eqY S c b = true ∧ PR G (fun _ _ _ _ => False) [] ρ H (calV M (dot c "__eq__") [a, b] S) fun _ H' z _ => ∃ d, z = .bl d ∧ Q (.bl (if ng then !d else d)) H'
theorem eq_call {A : Around} {pins : List (Addr × Obj)} {σ : L2.St} {H : Hp} {s : Shared} {Q : VK} {E' : Value → Shared → Prop} {ρ : List Addr} {S : Hs} {x y : Vl} {v w : V} {u1 u2 : Value} {ng : Bool} (F : FnG X.prog X.w X.K X.mg X.base k f fd ps (spI G M 2 (dot c "__eq__"))) (hr : Room k A) (hg : A.guards = some []) (hfr : A.frames = X.A.frames) (hb : Binds X.K fd ps []) (I : Inv X pins σ H s) (s0 : Sim G ρ H S) (hv : VR G ρ H x v) (hw : VR G ρ H y w) (r1 : RelV v u1) (r2 : RelV w u2)
    (hp : PR G (fun _ _ _ _ => False) [] ρ H (calV M (dot c "__eq__") [x, y] S) fun _ H' z _ => ∃ d, z = .bl d ∧ Q (.bl (if ng then !d else d)) H') : wpAny (model X.prog X.w) A (call (.ref f) [u1, u2]) (fun z s' => ∃ d H', z = .bool d ∧ Inv X pins σ H' s' ∧ Q (.bl (if ng then !d else d)) H') E' s := by
  refine wpAny_mono (run_in (vs := [v, w]) (E' := E') (Q := fun z H' => ∃ d, z = .bl d ∧ Q (.bl (if ng then !d else d)) H') F hr hg hfr hb I (.cons r1 (.cons r2 .nil)) ⟨rfl, ρ, S, [x, y], s0, VRs.cons hv (VRs.cons hw VRs.nil), ?_⟩) (fun u s1 ⟨z, H1, I1, rz, d, ez, q⟩ => ?_) fun _ _ z => z
  · exact calV_ok s0 hp fun ρ' H' x S' v st s' ⟨d, e, q⟩ hv => by
      subst e
      simp only [VR] at hv
      exact ⟨d, hv, q⟩
  · subst ez
    cases rz
    exact ⟨d, H1, rfl, I1, q⟩
theorem op_oeq (g : Good G (k + 3) X) (F : FnG X.prog X.w X.K X.mg X.base k f fd ps (spI G M 2 (dot c "__eq__"))) (ec : EqC X.K (G.cl c) f) (hb : Binds X.K fd ps []) : OpR X (compareOp .Eq) (rOeq G M c false) := by
  intro pins s σ H x y v u Q I rx ry ⟨ρ, S, a, b, s0, hva, hvb, hM, hY, hp⟩
  obtain ⟨a', dx, fs, rfl, ea, l⟩ := hasM_of s0 hva hM
  obtain rfl : v = Value.ref a' := rx
  obtain ⟨mA, J, _⟩ := ins_get I.hok ea
  obtain ⟨od, J, _⟩ := J.look
  obtain ⟨m', hF⟩ := I.fr
  have hr : Room k X.A := g.room.mono (by omega)
  have body : wpAny (model X.prog X.w) X.A (call (.ref f) [.ref a', u]) (PySem.W.CmpBack (EP X pins σ Q)) X.xe s := wpAny_mono (eq_call (E' := X.xe) (ng := false) F hr g.grd rfl hb I s0 hva hvb rfl ry hp) (fun z s' ⟨d, H', e, I', q⟩ => by
    subst e
    exact ⟨.bl d, H', I', rfl, q⟩) fun _ _ z => z
  show wpAny _ _ (richCompare .Eq (.ref a') u) _ _ _
  rcases eqY_looks (Mo := model X.prog X.w) g I s0 hvb ry hY with lk | ⟨T, hT, lk⟩
  · exact PySem.W.cmp_K (op := .Eq) (tb := .ref (G.cl c)) hr.units0 hF I.ok.mod.kin J lk (by simp [PySem.W.notFirst]) ec.eq ec.fn body
  · exact PySem.W.cmp_K (op := .Eq) (tb := .type T) hr.units0 hF I.ok.mod.kin J lk (ec.nf T hT) ec.eq ec.fn body
end
section
variable {prog : Program} {w : World} {A : Around} {E : Value → Shared → Prop} {s : Shared} {K : PySem.W.Frag} {x C L f : Addr} {h₀ : Heap} {m : Str → Option Value} {ox : Obj} {od : Option Obj} {b : Value}
theorem ifBound_ne {Mo : Model} {args : List Value} {Q : Option Value → Shared → Prop} (X : K.In s.heap) (I : PySem.W.InstAt s.heap x ox C od) (hs : PySem.W.findIn K (.ref C) "__ne__" = some (some (.builtin "object.__ne__")))
    (h : wpAny Mo A (call (.builtin "object.__ne__") (.ref x :: args)) (fun v => Q (some v)) E s) : wpAny Mo A (callSpecialIfBound? (.ref x) "__ne__" args) Q E s := by
  have hb : wpAny Mo A (call (.builtin "object.__ne__") ([.ref x] ++ args) >>= fun v => pure (some v)) Q E s := wpAny_bind (wpAny_mono h (fun v s' h' => wpAny_pure h') fun _ _ z => z)
  simp only [callSpecialIfBound?, bindSpecialIfBound?]
  refine wpAny_holding (wpAny_bind (wpAny_bind (wpAny_bind (I.type.here ((PySem.W.looks_findIn X hs).here (wpAny_bind (wpAny_askSetting (wpAny_ite ?_))))))))
  split
  · exact wpAny_bind (wpAny_of_eq (F.cmp_object.ne.bind _) (wpAny_pure (by exact hb)))
  · exact wpAny_tryCatch (wpAny_bind (wpAny_of_eq (F.cmp_object.ne.bind _) (wpAny_pure (by exact hb))))
theorem entry_neK {Q : PySem.Fin → Shared → Prop} (X : K.In s.heap) (I : PySem.W.InstAt s.heap x ox C od) (he : PySem.W.findIn K (.ref C) "__eq__" = some (some (.ref f))) (hf : PySem.W.isFn K (.ref f) = true) (hu : A.units < cLine)
    (h : wpAny (model prog w) A (call (.ref f) [.ref x, b]) (fun v s' => ∃ d, v = .bool d ∧ Q (.done (.ret (.bool (!d)))) s') E s) : wpAny (model prog w) A (Builtin.«object.__ne__» ⟨[.ref x, b], []⟩) Q E s := by
  unfold Builtin.«object.__ne__»
  repeat (first
    | with_reducible refine wpAny_cRoomFor hu ?_
    | (refine wpAny_bind (m := callSpecialIfBound? (.ref x) (Str.ofString "__eq__") [b]) (PySem.W.ifBound_K X I he hf (wpAny_mono h (fun r s' hr => by
          obtain ⟨d, rfl, q⟩ := hr
          repeat (first | exact q | exact wpAny_pure q | exact wpAny_truthy_bool q | (refine wpAny_bind (m := truthy (.bool _)) (wpAny_truthy_bool ?_)) | wp_step)) fun _ _ z => z)))
    | wp_step)
theorem ne_K {tb : Value} {Q : Value → Shared → Prop} (hu : A.units + 1 < cLine) (Fr0 : Fr h₀ L s.heap m) (X₀ : K.In h₀) (I : PySem.W.InstAt s.heap x ox C od) (hb : PySem.W.Looks (model prog w) s.heap (typeOf b) tb) (hn : PySem.W.notFirst K C tb = true) (hs : PySem.W.findIn K (.ref C) "__ne__" = some (some (.builtin "object.__ne__")))
    (he : PySem.W.findIn K (.ref C) "__eq__" = some (some (.ref f))) (hf : PySem.W.isFn K (.ref f) = true) (ho : PySem.W.mroIn K C (.type "object") = some true)
    (h : wpAny (model prog w) A.in1 (call (.ref f) [.ref x, b]) (fun v s' => ∃ d, v = .bool d ∧ Q (.bool (!d)) s') E s) : wpAny (model prog w) A (richCompare .NotEq (.ref x) b) Q E s := by
  have X := X₀.keeps Fr0.keep
  have one : wpAny (model prog w) A (tryCompare (.ref x) "__ne__" b) (fun r s' => ∃ v, r = some v ∧ Q v s') E s := by
    unfold tryCompare
    refine wpAny_bind (ifBound_ne X I hs (wpAny_call (codeAny_call_builtin F.cmp_object.ne.plain F.cmpEntry_ne (PySem.W.check_slot F.cmpKind_ne F.cmpSplit_ne (I.type.andThen (PySem.W.looks_mroIn X ho)) (F.cmpArgs_ne _ _) (entry_neK (A := A.in1) X I he hf (by show A.units + 1 < cLine; exact hu) (wpAny_mono h (fun v s' hv => ?_) fun _ _ z => z))))))
    obtain ⟨d, rfl, q⟩ := hv
    first
      | exact ⟨d, rfl, ⟨_, rfl, wpAny_pure ⟨_, rfl, q⟩⟩⟩
      | exact ⟨d, rfl, wpAny_pure ⟨_, rfl, q⟩⟩
  unfold richCompare
  simp only [oneThing_ref]
  refine wpAny_holding (wpAny_bind (wpAny_cRoomFor (by omega) ?_))
  refine wpAny_bind (I.type.here (wpAny_bind (hb.here ?_)))
  have go : ∀ {Q' : Option Value → Shared → Prop}, (∀ v s', Q v s' → Q' (some v) s') → wpAny (model prog w) A (tryCompare (.ref x) "__ne__" b) Q' E s := fun k => wpAny_mono one (fun r s' ⟨v, e, q⟩ => by subst e; exact k v s' q) fun _ _ z => z
  split
  · rename_i ne
    have e : PySem.W.subIn K tb (.ref C) = some false := (Bool.or_eq_true_iff.mp hn).elim (fun z => by rw [beq_iff_eq.mp z] at ne; simp at ne) fun z => beq_iff_eq.mp z
    refine wpAny_bind ((PySem.W.looks_subIn X e).here ?_)
    simp only [Bool.false_eq_true, if_false]
    exact wpAny_bind (go fun v s' q => wpAny_pure q)
  · refine wpAny_bind (wpAny_pure ?_)
    simp only [Bool.false_eq_true, if_false]
    exact wpAny_bind (go fun v s' q => wpAny_pure q)
end
section
variable {G : Glb} {k n : Nat} {X : Cx} {M : Mach} {W : WX} {f : Addr} {fd : FuncData} {ps : List Str} {c : Str} {a b : Expr} {ca cb : E} {pos : Pos}
theorem op_one (g : Good G (k + 3) X) (F : FnG X.prog X.w X.K X.mg X.base k f fd ps (spI G M 2 (dot c "__eq__"))) (ec : EqC X.K (G.cl c) f) (hb : Binds X.K fd ps []) : OpR X (compareOp .NotEq) (rOeq G M c true) := by
  intro pins s σ H x y v u Q I rx ry ⟨ρ, S, a, b, s0, hva, hvb, hM, hY, hp⟩
  obtain ⟨a', dx, fs, rfl, ea, l⟩ := hasM_of s0 hva hM
  obtain rfl : v = Value.ref a' := rx
  obtain ⟨mA, J, _⟩ := ins_get I.hok ea
  obtain ⟨od, J, _⟩ := J.look
  obtain ⟨m', hF⟩ := I.fr
  have hr : Room k X.A.in1 := (g.room.mono (by omega : k + 1 ≤ k + 3)).in1
  have body : wpAny (model X.prog X.w) X.A.in1 (call (.ref f) [.ref a', u]) (fun z s' => ∃ d, z = .bool d ∧ EP X pins σ Q (.bool (!d)) s') X.xe s := wpAny_mono (eq_call (E' := X.xe) (ng := true) F hr g.grd rfl hb I s0 hva hvb rfl ry hp) (fun z s' ⟨d, H', e, I', q⟩ => ⟨d, e, .bl (!d), H', I', rfl, q⟩) fun _ _ z => z
  show wpAny _ _ (richCompare .NotEq (.ref a') u) _ _ _
  rcases eqY_looks (Mo := model X.prog X.w) g I s0 hvb ry hY with lk | ⟨T, hT, lk⟩
  · exact ne_K g.u1 hF I.ok.mod.kin J lk (by simp [PySem.W.notFirst]) ec.ne ec.eq ec.fn ec.ob body
  · exact ne_K g.u1 hF I.ok.mod.kin J lk (ec.nf T hT) ec.ne ec.eq ec.fn ec.ob body
theorem tOeq (ng : Bool) {σ : L2.St} {H : Hp} {Q : VK} (h : tE G M W (.oeq c ng ca cb) σ H Q) : tOp (rOeq G M c ng) (tE G M W ca) (tE G M W cb) σ H Q := by
  obtain ⟨ρ, η, S, s, r, h⟩ := h
  simp only [ev] at h
  refine ⟨ρ, η, S, s, r, (PR.bind h).mono fun ρ1 H1 x S1 st1 s1 h1 v hv => ⟨ρ1, η, S1, s1, r.step st1, (PR.bind h1).mono fun ρ2 H2 y S2 st2 s2 h2 w hw => ?_⟩⟩
  split at h2
  · rename_i hc
    rw [Bool.and_eq_true] at hc
    refine ⟨ρ2, S2, x, y, s2, hv.step st2, hw, hc.1, hc.2, noX_ok ((PR.bind h2).mono fun ρ3 H3 z S3 st3 s3 h3 => ?_)⟩
    split at h3
    · exact ⟨_, rfl, h3.here s3 _ (by simp only [VR])⟩
    · exact h3.elim
  · exact h2.elim
theorem tOeqT (ng : Bool) {σ : L2.St} {H : Hp} {Q : Bool → Hp → Prop} (h : tQ G M W (.oeq c ng ca cb) σ H Q) : tTest (tOp (rOeq G M c ng) (tE G M W ca) (tE G M W cb)) σ H Q := by
  refine tOeq ng (Q := fun x H' => ∃ d, x = .bl d ∧ Q d H') ?_
  obtain ⟨ρ, η, S, s, r, h⟩ := h
  exact ⟨ρ, η, S, s, r, h.mono fun ρ1 H1 x S1 st1 s1 ⟨d, e, q⟩ v hv => by
    subst e
    simp only [VR] at hv
    exact ⟨d, hv, q⟩⟩
theorem pe_oeqi (g : Good G (k + 3) X) (F : FnG X.prog X.w X.K X.mg X.base k f fd ps (spI G M 2 (dot c "__eq__"))) (ec : EqC X.K (G.cl c) f) (hb : Binds X.K fd ps []) (ha : PE X a (tE G M W ca)) (hb2 : PE X b (tE G M W cb)) (hm : behindInMarks .Eq b = false) : PE X (.Compare a [.Eq] [b] pos) (tE G M W (.oeq c false ca cb)) :=
  (pe_cmpR (op_oeq g F ec hb) ha hb2 hm).imp fun _ _ _ h => tOeq false h
theorem pt_oeqi (g : Good G (k + 3) X) (F : FnG X.prog X.w X.K X.mg X.base k f fd ps (spI G M 2 (dot c "__eq__"))) (ec : EqC X.K (G.cl c) f) (hb : Binds X.K fd ps []) (ha : PE X a (tE G M W ca)) (hb2 : PE X b (tE G M W cb)) (hm : behindInMarks .Eq b = false) : PT X (.Compare a [.Eq] [b] pos) (tQ G M W (.oeq c false ca cb)) :=
  (pt_cmpR (op_oeq g F ec hb) ha hb2 hm).imp fun _ _ _ h => tOeqT false h
theorem pe_onei (g : Good G (k + 3) X) (F : FnG X.prog X.w X.K X.mg X.base k f fd ps (spI G M 2 (dot c "__eq__"))) (ec : EqC X.K (G.cl c) f) (hb : Binds X.K fd ps []) (ha : PE X a (tE G M W ca)) (hb2 : PE X b (tE G M W cb)) (hm : behindInMarks .NotEq b = false) : PE X (.Compare a [.NotEq] [b] pos) (tE G M W (.oeq c true ca cb)) :=
  (pe_cmpR (op_one g F ec hb) ha hb2 hm).imp fun _ _ _ h => tOeq true h
theorem pt_onei (g : Good G (k + 3) X) (F : FnG X.prog X.w X.K X.mg X.base k f fd ps (spI G M 2 (dot c "__eq__"))) (ec : EqC X.K (G.cl c) f) (hb : Binds X.K fd ps []) (ha : PE X a (tE G M W ca)) (hb2 : PE X b (tE G M W cb)) (hm : behindInMarks .NotEq b = false) : PT X (.Compare a [.NotEq] [b] pos) (tQ G M W (.oeq c true ca cb)) :=
  (pt_cmpR (op_one g F ec hb) ha hb2 hm).imp fun _ _ _ h => tOeqT true h
end
end Oz
set_option Elab.async false
set_option linter.all false
set_option maxRecDepth 100000
set_option maxHeartbeats 4000000
set_option autoImplicit false
/-! Oz: classes that are called, isinstance, displays. -/
namespace Oz
open PySem L2 PyProof.Rows

section
variable {G : Glb} {k n : Nat} {X : Cx} {M : Mach} {W : WX} {f : Addr} {fd : FuncData} {ps ks : List Str} {q c m x : Str} {a b e : Expr} {es : List Expr} {ca cb : E} {ces kes : Es} {p pos apos kpos : Pos} {dxs : List Vl} {dvs : List V} {mv : List Value} {kws : List Keyword} {nm : Option Str}
def Es.cat : Es → Es → Es
  | .nil, b => b
  | .cons e a, b => .cons e (a.cat b)
theorem evs_cat : ∀ (a b : Es) (η : Sg) (S : Hs), evs M (a.cat b) η S = (evs M a η S).bind fun xs S1 => (evs M b η S1).bind fun ys S2 => .ok (xs ++ ys) S2
  | .nil, b, η, S => by
    simp only [Es.cat, evs, Res.bind, List.nil_append]
    cases evs M b η S <;> rfl
  | .cons e a, b, η, S => by
    simp only [Es.cat, evs]
    cases ev M e η S with
    | ok x S1 =>
      simp only [Res.bind]
      rw [evs_cat a b η S1]
      cases evs M a η S1 with
      | ok xs S2 => simp only [Res.bind]; cases evs M b η S2 <;> rfl
      | exc x S2 => rfl
      | bad => rfl
    | exc x S1 => rfl
    | bad => rfl
theorem _root_.L2.PK.imp {X : Cx} {kws : List Keyword} {t t' : TA} (h : PK X kws t) (k : ∀ σ H Q, t' σ H Q → t σ H Q) : PK X kws t' := ⟨fun pos pins s σ H Q I q => h.run pos pins s σ H Q I (k σ H Q q)⟩
theorem pk_n : PK X [] (tA G M W .nil) := pk_nil.imp fun σ H Q ⟨ρ, η, S, s, r, h⟩ => by
  simp only [evs] at h
  exact h.here s _ VRs.nil
theorem pk_c (ha : PE X a (tE G M W ca)) (hr : PK X kws (tA G M W ces)) : PK X (⟨nm, a, kpos⟩ :: kws) (tA G M W (.cons ca ces)) := (pk_cons ha hr).imp fun σ H Q ⟨ρ, η, S, s, r, h⟩ => ⟨ρ, η, S, s, r, by
  simp only [evs] at h
  refine (PR.bind h).mono fun ρ1 H1 x S1 st1 s1 h1 v hv => ⟨ρ1, η, S1, s1, r.step st1, ?_⟩
  exact PR.mono (PR.bind h1) fun ρ2 H2 xs S2 st2 s2 h2 vs hvs => (h2.here s2) _ (VRs.cons (hv.step st2) hvs)⟩
theorem run_mkK {C : Addr} {sp : Sp} {pins : List (Addr × Obj)} {σ : L2.St} {H : Hp} {s : Shared} {Q : VK} {us ws : List Value} {vs zs : List V} (mk : Mk X.K C f) (F : FnG X.prog X.w X.K X.mg X.base k f fd ps sp) (hr : Room (k + 1) X.A) (hg : X.A.guards = some []) (hb : KBn X.K fd ps (n + 1) ks (fun us ws => us ++ ws ++ mv) (fun vs zs => vs ++ zs ++ dvs)) (tk : Takes X W)
    (I : Inv X pins σ H s) (r : Vals vs us) (rz : Vals zs ws) (l1 : vs.length = n) (l2 : zs.length = ks.length)
    (h : ∀ x dx, H x = none → H dx = none → dx ≠ x → sp (.ref x :: (vs ++ zs ++ dvs)) (upd (upd H dx (.own x)) x (.ins C dx [])) (fun v H2 => v = .non ∧ Q (.ref x) H2) (fun c d H' => W c d σ H')) :
    wpAny (model X.prog X.w) X.A (call (.ref C) us (ks.zip ws)) (EP X pins σ Q) X.xe s := by
  have q0 := h (s.heap.objs.size + 1) s.heap.objs.size (I.hok.fresh (Nat.le_succ _)) (I.hok.fresh (Nat.le_refl _)) (Nat.ne_of_lt (Nat.lt_succ_self _))
  have J := Inv.made (C := C) I
  have r1 : Vals (V.ref (s.heap.objs.size + 1) :: vs) (Value.ref (s.heap.objs.size + 1) :: us) := .cons rfl r
  have rr := hb.rel r1 rz
  have n1 : (Value.ref (s.heap.objs.size + 1) :: us).length = n + 1 := by rw [List.length_cons, ← r.length, l1]
  refine wpAny_call (make_map (f := f) I.kIn mk.makes mk.init (beq_iff_eq.mp mk.fn) (codeAny_mono (F.run _ X.stack _ _ ⟨Value.ref (s.heap.objs.size + 1) :: us, ks.zip ws⟩ _ _ _ _ (hr.make C us (ks.zip ws)) (guards_make hg)
    (J.env0.make C us (ks.zip ws)) (hb.to _ (Value.ref (s.heap.objs.size + 1) :: us) ws J.kIn n1 (rz.length.symm.trans l2)) rr q0) ?_))
  intro r' s' hq
  match r', hq with
  | .error e, hq => exact raised (σ := σ) tk J hq
  | .ok (.ret u), hq =>
    obtain ⟨v, H', J3, rv, ev, q3⟩ := J.after hq
    subst ev
    exact ⟨rv, V.ref (s.heap.objs.size + 1), H', J3, rfl, q3⟩
  | .ok .next, hq => exact hq.elim
  | .ok .brk, hq => exact hq.elim
  | .ok .cont, hq => exact hq.elim
theorem newR_ok {ρ ρ0 : List Addr} {H H0 : Hp} {S S0 : Hs} {σ : L2.St} {Q : VK} {r : Res Rv} {y dx : Addr} (s0 : Sim G ρ0 H0 S0) (st0 : Step ρ0 H0 ρ H) (s : Sim G ρ H S) (hy : H y = none) (hdx : H dx = none) (ne : dx ≠ y)
    (h : PR G W σ ρ H (newR S r) (okF G H0 Q)) : PR G (fun cls d _ H' => W cls d σ H') [] (ρ ++ [y]) (upd (upd H dx (.own y)) y (.ins (G.cl c) dx [])) r (okR G (upd (upd H dx (.own y)) y (.ins (G.cl c) dx [])) fun v H2 => v = .non ∧ Q (.ref y) H2) := by
  generalize hHn : upd (upd H dx (.own y)) y (.ins (G.cl c) dx []) = Hn
  have keep : ∀ a o, H a = some o → Hn a = some o := fun a o e => by
    rw [← hHn, upd_ne (fun z => by subst z; rw [hy] at e; cases e), upd_ne (fun z => by subst z; rw [hdx] at e; cases e)]
    exact e
  have yρ : y ∉ ρ := s.free hy
  have cutS : ∀ {H2 : Hp}, Step (ρ ++ [y]) Hn (ρ ++ [y]) H2 → Step ρ H ρ H2 := fun {H2} st => ⟨List.prefix_refl _, fun a o e na => st.keep a o (keep a o e) (fun z => (List.mem_append.mp z).elim na fun z => (by rw [List.mem_singleton.mp z, hy] at e; cases e)), fun a ha => Or.inl ha⟩
  cases r with
  | bad => exact h
  | exc x' T =>
    simp only [newR] at h
    split at h
    · rename_i hc
      refine fun ρ2 H2 st s2 => ?_
      have e2 : ρ2 = ρ ++ [y] := pre_eq st.pre (by rw [s2.len, hc.1, List.length_append, s.len]; rfl)
      subst e2
      have hT : T ≠ [] := fun z => by rw [z] at hc; simp at hc
      have eT : T.dropLast ++ [T.getLast hT] = T := List.dropLast_concat_getLast hT
      have ld : T.dropLast.length = S.length := by rw [List.length_dropLast, hc.1]; rfl
      have sc : Sim G ρ H2 T.dropLast := Sim.cut (τ := [y]) (T := [T.getLast hT]) (by rw [eT]; exact s2) (by rw [ld]; exact s.len) fun r o e => by
        rw [ld]; exact List.all_eq_true.mp hc.2.1 o (List.mem_of_getElem? e)
      have q := h ρ H2 (cutS st) sc
      have hx := hc.2.2
      unfold XW at q ⊢
      unfold Xc.lim at hx
      split at q
      · exact q
      · rename_i ns vs e
        exact fun d fs h1 h2 h3 h4 => q d fs h1 (fun z => h2 (List.mem_append_left _ z)) h3 (VRs.less _ _ h4 (by rw [s.len]; have z := hx; rw [e] at z; exact z))
    · exact h.elim
  | ok rv T =>
    cases rv with
    | frs o => exact h.elim
    | val v =>
      cases v with
      | non =>
        simp only [newR] at h
        split at h
        · rename_i o eo
          split at h
          · rename_i hc
            refine fun ρ2 H2 st s2 => ?_
            have e2 : ρ2 = ρ ++ [y] := pre_eq st.pre (by rw [s2.len, hc.1, List.length_append, s.len]; rfl)
            subst e2
            have hT : T ≠ [] := fun z => by rw [z] at eo; cases eo
            have eT : T.dropLast ++ [o] = T := by
              rw [List.getLast?_eq_getLast hT] at eo
              rw [← Option.some.inj eo]
              exact List.dropLast_concat_getLast hT
            have ld : T.dropLast.length = S.length := by rw [List.length_dropLast, hc.1]; rfl
            have all := List.all_eq_true.mp hc.2
            have s2' : Sim G (ρ ++ [y]) H2 (T.dropLast ++ [o]) := by rw [eT]; exact s2
            have sc : Sim G ρ H2 T.dropLast := Sim.cut (τ := [y]) (T := [o]) s2' (by rw [ld]; exact s.len) fun r u e => by
              rw [ld]; exact all u (by rw [← eT]; exact List.mem_append_left _ (List.mem_of_getElem? e))
            have q := h ρ H2 (cutS st) sc
            have lo : o.lim ρ.length = true := by rw [s.len]; exact all o (by rw [← eT]; simp)
            have hr : (ρ ++ [y])[T.dropLast.length]? = some y := by rw [ld, ← s.len]; simp
            intro v hv
            simp only [VR] at hv
            exact ⟨hv, q y (none_of s0 s st0 hy) yρ (OR.less (s2'.at_ T.dropLast.length o y (by simp) hr) lo) s2'⟩
          · exact h.elim
        · exact h.elim
      | _ => exact h.elim
def tNw (G : Glb) (M : Mach) (c : Str) (W : WX) (n m : Nat) (ces kes : Es) (dxs : List Vl) : TE := fun σ H Q => ∃ ρ η S, Sim G ρ H S ∧ ER G ρ H η σ ∧ PR G W σ ρ H (evs M ces η S) fun ρ1 H1 xs S1 => xs.length = n ∧ PR G W σ ρ1 H1 (evs M kes η S1) fun ρ2 H2 ys S2 => ys.length = m ∧
  PR G W σ ρ2 H2 (newR S2 (M.cal (dot c "__init__") (.ref S2.length :: (xs ++ ys ++ dxs)) (S2 ++ [.ins c [] []]))) (okF G H Q)
theorem tNw_of {σ : L2.St} {H : Hp} {Q : VK} (hn : ces.len = n) (hk : kes.len = ks.length) (h : tF G M W (.new c ((ces.cat kes).app dxs)) σ H Q) : tNw G M c W n ks.length ces kes dxs σ H Q := by
  obtain ⟨ρ, η, S, s0, r, h⟩ := h
  simp only [evf] at h
  rw [evs_app, evs_cat] at h
  refine ⟨ρ, η, S, s0, r, ?_⟩
  cases e1 : evs M ces η S with
  | ok xs S1 =>
    rw [e1] at h
    simp only [Res.bind] at h
    refine fun ρ1 H1 st s => ⟨by rw [evs_len _ _ _ _ _ e1]; exact hn, ?_⟩
    have h := PR.step h st
    cases e2 : evs M kes η S1 with
    | ok ys S2 =>
      rw [e2] at h
      exact fun ρ2 H2 st2 s2 => ⟨by rw [evs_len _ _ _ _ _ e2]; exact hk, PR.step h st2⟩
    | exc x S2 => rw [e2] at h; exact h
    | bad => rw [e2] at h; exact h
  | exc x S1 => rw [e1] at h; exact h
  | bad => rw [e1] at h; exact h
/-- the parts of a new instance's start -/
theorem new_start {ρ : List Addr} {H : Hp} {S : Hs} {y dx : Addr} (s : Sim G ρ H S) (hy : H y = none) (hdx : H dx = none) (ne : dx ≠ y) : Step ρ H (ρ ++ [y]) (upd (upd H dx (.own y)) y (.ins (G.cl c) dx [])) ∧ Sim G (ρ ++ [y]) (upd (upd H dx (.own y)) y (.ins (G.cl c) dx [])) (S ++ [.ins c [] []]) := by
  have sm : Same H (upd H dx (.own y)) := same_new hdx
  have hy2 : (upd H dx (.own y)) y = none := by rw [upd_ne (Ne.symm ne)]; exact hy
  have s1 := s.same sm
  have st1 : Step ρ H ρ (upd H dx (.own y)) := stepSame sm
  have s2 := s1.new (u := .ins (G.cl c) dx []) (o := .ins c [] []) hy2 ⟨dx, [], upd_same, rfl, VRs.nil⟩
  exact ⟨st1.trans ((stepSame (same_new hy2)).one hy2), s2⟩
theorem new_sp {ρ ρ0 : List Addr} {H H0 : Hp} {S S0 : Hs} {σ : L2.St} {Q : VK} {xs : List Vl} {vs : List V} {y dx : Addr} (s0 : Sim G ρ0 H0 S0) (st0 : Step ρ0 H0 ρ H) (s : Sim G ρ H S) (hy : H y = none) (hdx : H dx = none) (ne : dx ≠ y) (hv : VRs G ρ H xs vs) (hl : xs.length + 1 = n)
    (h : PR G W σ ρ H (newR S (M.cal (dot c "__init__") (.ref S.length :: xs) (S ++ [.ins c [] []]))) (okF G H0 Q)) : spI G M n (dot c "__init__") (.ref y :: vs) (upd (upd H dx (.own y)) y (.ins (G.cl c) dx [])) (fun v H2 => v = .non ∧ Q (.ref y) H2) (fun c d H' => W c d σ H') := by
  obtain ⟨st, sn⟩ := new_start (c := c) s hy hdx ne
  refine ⟨by rw [List.length_cons, ← hv.length]; exact hl, ρ ++ [y], S ++ [.ins c [] []], .ref S.length :: xs, sn, VRs.cons ?_ (hv.step st), newR_ok s0 st0 s hy hdx ne h⟩
  simp only [VR]
  exact ⟨y, rfl, by rw [← s.len]; simp⟩
theorem pf_newK (g : Good G (k + 1) X) (F : FnG X.prog X.w X.K X.mg X.base k f fd ps (spI G M (n + 1 + ks.length + dxs.length) (dot c "__init__"))) (mk : Mk X.K (G.cl c) f) (hg : Gl X x) (hm : X.mg x = some (.ref (G.cl c))) (hb : KBn X.K fd ps (n + 1) ks (fun us ws => us ++ ws ++ mv) (fun vs zs => vs ++ zs ++ dvs)) (hc : Csts G dxs dvs) (tk : Takes X W)
    (ha : PA X (e :: es) (tA G M W ces)) (hkw : PK X kws (tA G M W kes)) (hn : ces.len = n) (hk : kes.len = ks.length) (hall : (backToKw pos (keywordEach kws X.env)).all (·.1.isSome) = true := by rfl) (hks : (backToKw pos (keywordEach kws X.env)).filterMap (·.1) = ks := by rfl) (hdb : (x == ("__debug__" : Str)) = false := by decide)
    (he : starEach (e :: es) X.env = (false, eval e X.env) :: starEach es X.env := by rfl) (hpl : ((backTo pos (starEach (e :: es) X.env)).any (·.1) || (backToKw pos (keywordEach kws X.env)).any (·.1.isNone)) = false := by rfl) :
    PE X (.Call (.Name x p) (e :: es) kws pos) (tF G M W (.new c ((ces.cat kes).app dxs))) := by
  refine ⟨fun pins s σ H Q I h0 => ?_⟩
  obtain ⟨ρ, η, S, s0, r, h⟩ := tNw_of (ks := ks) hn hk h0
  refine wpAny_Call_Name_kw (ld_glob I hg hm ?_ hdb)
  refine PySem.W.callWith_KW (h₀ := X.base) I.ok.mod.kin mk.kp hall (thn (ha.run pos pins s σ H (fun vs H1 => ∃ xs ρ1 S1, Step ρ H ρ1 H1 ∧ Sim G ρ1 H1 S1 ∧ VRs G ρ1 H1 xs vs ∧ xs.length = n ∧ PR G W σ ρ1 H1 (evs M kes η S1) fun ρ2 H2 ys S2 => ys.length = ks.length ∧
    PR G W σ ρ2 H2 (newR S2 (M.cal (dot c "__init__") (.ref S2.length :: (xs ++ ys ++ dxs)) (S2 ++ [.ins c [] []]))) (okF G H Q)) I ⟨ρ, η, S, s0, r, h.mono fun ρ1 H1 xs S1 st1 s1 h1 vs hv => ⟨xs, ρ1, S1, st1, s1, hv, h1⟩⟩) fun us s1 ⟨vs, H1, I1, rv, xs, ρ1, S1, st1, sm1, hv, hl, hp⟩ => ?_) hpl he
  refine thn (hkw.run pos pins s1 σ H1 (fun zs H2 => ∃ ys ρ2 S2, Step ρ1 H1 ρ2 H2 ∧ Sim G ρ2 H2 S2 ∧ VRs G ρ2 H2 ys zs ∧ ys.length = ks.length ∧ PR G W σ ρ2 H2 (newR S2 (M.cal (dot c "__init__") (.ref S2.length :: (xs ++ ys ++ dxs)) (S2 ++ [.ins c [] []]))) (okF G H Q)) I1 ⟨ρ1, η, S1, sm1, r.step st1, hp.mono fun ρ2 H2 ys S2 st2 s2 h2 vs hv => ⟨ys, ρ2, S2, st2, s2, hv, h2⟩⟩) fun ws s2 ⟨zs, H2, I2, rz, ys, ρ2, S2, st2, sm2, hz, hl2, hp2⟩ => ⟨I2.kIn, ?_⟩
  rw [hks]
  refine run_mkK mk F g.room g.grd hb tk I2 rv rz (by rw [← hv.length]; exact hl) (by rw [← hz.length]; exact hl2) fun y dx hy hdx ne => ?_
  exact new_sp s0 (st1.trans st2) sm2 hy hdx ne (((hv.step st2).append hz).append (hc _ _)) (by simp only [List.length_append]; omega) hp2
theorem pf_new (g : Good G (k + 1) X) (F : FnG X.prog X.w X.K X.mg X.base k f fd ps (spI G M (n + 1 + dxs.length) (dot c "__init__"))) (mk : Mk X.K (G.cl c) f) (hg : Gl X x) (hm : X.mg x = some (.ref (G.cl c))) (hb : KBn X.K fd ps (n + 1) [] (fun us ws => us ++ ws ++ mv) (fun vs zs => vs ++ zs ++ dvs)) (hc : Csts G dxs dvs) (tk : Takes X W)
    (ha : PA X (e :: es) (tA G M W ces)) (hn : ces.len = n) (hdb : (x == ("__debug__" : Str)) = false := by decide) (he : starEach (e :: es) X.env = (false, eval e X.env) :: starEach es X.env := by rfl) (hpl : (backTo pos (starEach es X.env)).any (·.1) = false := by rfl) :
    PE X (.Call (.Name x p) (e :: es) [] pos) (tF G M W (.new c (ces.app dxs))) := by
  refine ⟨fun pins s σ H Q I h0 => ?_⟩
  have ecat : ces.cat .nil = ces := by
    have : ∀ c : Es, c.cat .nil = c := fun c => by
      induction c using Es.rec (motive_1 := fun _ => True) (motive_2 := fun _ => True) (motive_3 := fun _ => True) (motive_5 := fun _ => True) <;> first | trivial | rfl | (simp only [Es.cat]; rename_i ih; rw [ih])
    exact this ces
  obtain ⟨ρ, η, S, s0, r, h⟩ := tNw_of (ks := []) (kes := .nil) hn rfl (by rw [ecat]; exact h0)
  refine wpAny_Call_Name_kw (ld_glob I hg hm ?_ hdb)
  refine PySem.W.callWith_K (h₀ := X.base) I.ok.mod.kin mk.kp (thn (ha.run pos pins s σ H (fun vs H1 => ∃ xs ρ1 S1, Step ρ H ρ1 H1 ∧ Sim G ρ1 H1 S1 ∧ VRs G ρ1 H1 xs vs ∧ xs.length = n ∧ PR G W σ ρ1 H1 (evs M .nil η S1) fun ρ2 H2 ys S2 => ys.length = 0 ∧
    PR G W σ ρ2 H2 (newR S2 (M.cal (dot c "__init__") (.ref S2.length :: (xs ++ ys ++ dxs)) (S2 ++ [.ins c [] []]))) (okF G H Q)) I ⟨ρ, η, S, s0, r, h.mono fun ρ1 H1 xs S1 st1 s1 h1 vs hv => ⟨xs, ρ1, S1, st1, s1, hv, h1⟩⟩) fun us s1 ⟨vs, H1, I1, rv, xs, ρ1, S1, st1, sm1, hv, hl, hp⟩ => ⟨I1.kIn, ?_⟩) he hpl
  simp only [evs] at hp
  obtain ⟨_, hp2⟩ := hp.here sm1
  rw [List.append_nil] at hp2
  refine run_mkK (ks := []) (ws := []) (zs := []) mk F g.room g.grd hb tk I1 rv .nil (by rw [← hv.length]; exact hl) rfl fun y dx hy hdx ne => ?_
  rw [List.append_nil]
  exact new_sp s0 st1 sm1 hy hdx ne (hv.append (hc _ _)) (by simp only [List.length_append]; omega) hp2
end
/-! ### isinstance -/
/-- what the classes have that stand behind instances -/
structure ClsAll (K : PySem.W.Frag) (C : Addr) : Prop where
  cls : Cls K C
  ha : PySem.W.findIn K (.ref C) "__class__" = some (some (.builtin "object.__class__"))
  hn : PySem.W.specialIn K (.builtin "object.__class__") "__get__" = some (some (.builtin "getset_descriptor.__get__"))
  htk : PySem.W.takesIn K (.builtin "object.__class__") = some true
  hm : PySem.W.mroIn K C (.type "object") = some true
def tyT (G : Glb) (S : Hs) : Vl → Value
  | .non => .type "NoneType" | .bl _ => .type "bool" | .int _ => .type "int" | .str _ => .type "str"
  | .tup _ => .type "tuple" | .lst _ => .type "list" | .dct _ _ => .type "dict" | .obj c _ _ => .ref (G.cl c)
  | .ref r => match S[r]? with
    | some (.lst _) => .type "list"
    | some (.dct _ _) => .type "dict"
    | some (.ins c _ _) => .ref (G.cl c)
    | none => .none
section
variable {G : Glb} {k n : Nat} {X : Cx} {M : Mach} {W : WX} {f : Addr} {c : Str} {a b e : Expr} {es : List Expr} {ca cb : E} {ces kes : Es} {p pos : Pos}
theorem ty_of {ρ : List Addr} {H : Hp} {S : Hs} {x : Vl} {v : V} (hC : ∀ c, ClsAll G.K (G.cl c)) (s : Sim G ρ H S) (h : VR G ρ H x v) : TyX G.K H v (tyT G S x) := by
  have ins : ∀ {a C dx : Addr} {fs : List (Str × V)}, (∃ c, C = G.cl c) → H a = some (.ins C dx fs) → TyX G.K H (.ref a) (.ref C) := fun ⟨c, e⟩ h => by
    subst e
    exact .base (.ins h (hC c).cls (hC c).ha (hC c).hn (hC c).htk (hC c).hm)
  cases x with
  | non => simp only [VR] at h; subst h; exact .base .non
  | bl d => simp only [VR] at h; subst h; exact .base (.bl d)
  | int d => simp only [VR] at h; subst h; exact .base (.int d)
  | str d => simp only [VR] at h; subst h; exact .base (.str d)
  | tup xs =>
    simp only [VR] at h
    obtain ⟨p, vs, rfl, h1, _⟩ := h
    rcases h1 with ⟨h1 | ⟨o, h1⟩, _⟩ | (h1 | ⟨o, h1⟩) | ⟨o, its, n, h1, h2, _⟩
    · exact .base (.tup h1)
    · exact .fTuple h1
    · cases h1
    · cases h1
    · exact .kTuple h1 h2
  | lst xs =>
    simp only [VR] at h
    obtain ⟨p, vs, rfl, ⟨h1 | ⟨o, h1⟩, _⟩, _⟩ := h
    · exact .base (.lst h1)
    · exact .base (.frz h1)
  | dct ks xs =>
    simp only [VR] at h
    obtain ⟨p, kvs, rfl, h1, _⟩ := h
    rcases h1 with h1 | ⟨o, h1⟩
    · exact .base (.dK h1)
    · exact .fDict h1
  | obj c ns xs =>
    simp only [VR] at h
    obtain ⟨p, dx, fs, rfl, h1, _⟩ := h
    exact ins ⟨c, rfl⟩ h1
  | ref r =>
    have h0 := h
    simp only [VR] at h
    obtain ⟨p, rfl, hr⟩ := h
    have hl : r < S.length := by rw [← s.len]; exact lt_of_get hr
    have eo : S[r]? = some S[r] := List.getElem?_eq_getElem hl
    obtain ⟨p', e, _, ho⟩ := s.ref h0 eo
    cases e
    unfold tyT
    simp only [eo]
    generalize S[r] = o at ho
    cases o with
    | lst xs => obtain ⟨vs, h1, _⟩ := ho; exact .base (.lst h1)
    | dct ks xs => obtain ⟨vs, h1, _⟩ := ho; exact .base (.dK h1)
    | ins c ns xs => obtain ⟨dx, vs, h1, _⟩ := ho; exact ins ⟨c, rfl⟩ h1
/-- answers for the built-in kinds of values: d for a dict, no for the others -/
structure IsT (K : PySem.W.Frag) (u : Value) (d : Bool) : Prop where
  non : PySem.W.kitOne K (.type "NoneType") u = some false
  bl : PySem.W.kitOne K (.type "bool") u = some false
  int : PySem.W.kitOne K (.type "int") u = some false
  str : PySem.W.kitOne K (.type "str") u = some false
  tup : PySem.W.kitOne K (.type "tuple") u = some false
  lst : PySem.W.kitOne K (.type "list") u = some false
  dct : PySem.W.kitOne K (.type "dict") u = some d
theorem isD_ans {S : Hs} {x : Vl} {u : Value} (it : IsT G.K u true) (hi : ∀ c, PySem.W.kitOne G.K (.ref (G.cl c)) u = some false) (hr : ∀ r, x = .ref r → r < S.length) : PySem.W.kitOne G.K (tyT G S x) u = some (dctOf S x).isSome := by
  cases x with
  | non => exact it.non
  | bl d => exact it.bl
  | int d => exact it.int
  | str d => exact it.str
  | tup xs => exact it.tup
  | lst xs => exact it.lst
  | dct ks xs => exact it.dct
  | obj c ns xs => exact hi c
  | ref r =>
    obtain ⟨o, eo⟩ : ∃ o, S[r]? = some o := ⟨S[r]'(hr r rfl), List.getElem?_eq_getElem _⟩
    unfold tyT dctOf
    simp only [eo]
    cases o with
    | lst xs => exact it.lst
    | dct ks xs => exact it.dct
    | ins c ns xs => exact hi c
theorem isC_ans {S : Hs} {x : Vl} {u : Value} (it : IsT G.K u false) (hr : ∀ r, x = .ref r → r < S.length) (h : insOf S x = none) : PySem.W.kitOne G.K (tyT G S x) u = some false := by
  cases x with
  | non => exact it.non
  | bl d => exact it.bl
  | int d => exact it.int
  | str d => exact it.str
  | tup xs => exact it.tup
  | lst xs => exact it.lst
  | dct ks xs => exact it.dct
  | obj c ns xs => simp [insOf] at h
  | ref r =>
    obtain ⟨o, eo⟩ : ∃ o, S[r]? = some o := ⟨S[r]'(hr r rfl), List.getElem?_eq_getElem _⟩
    unfold insOf at h
    unfold tyT
    simp only [eo] at h ⊢
    cases o with
    | lst xs => exact it.lst
    | dct ks xs => exact it.dct
    | ins c ns xs => simp at h
theorem ref_lt {ρ : List Addr} {H : Hp} {S : Hs} {x : Vl} {v : V} (s : Sim G ρ H S) (h : VR G ρ H x v) : ∀ r, x = .ref r → r < S.length := fun r e => by
  subst e
  simp only [VR] at h
  obtain ⟨p, _, hr⟩ := h
  rw [← s.len]; exact lt_of_get hr
theorem pe_isDi (g : Good G k X) (hC : ∀ c, ClsAll G.K (G.cl c)) (it : IsT G.K (.type "dict") true) (hi : ∀ c, PySem.W.kitOne G.K (.ref (G.cl c)) (.type "dict") = some false) (hg : Gl X "isinstance") (hm : X.mg "isinstance" = none) (ha : PE X a (tE G M W ca)) (hb : PE X b (L2.tC (.ty "dict")))
    (hs : starEach [a, b] X.env = (false, eval a X.env) :: starEach [b] X.env := by rfl) (hs2 : starEach [b] X.env = (false, eval b X.env) :: starEach [] X.env := by rfl) (hpl : (backTo pos (starEach [b] X.env)).any (·.1) = false := by rfl) :
    PE X (.Call (.Name "isinstance" p) [a, b] [] pos) (tE G M W (.isD ca)) := (pe_callB call_isi hg hm (by decide +kernel) (pa_cons ha (pa_cons hb pa_nil hs2) hs) (by decide) (by decide) hs hpl).imp fun σ H Q ⟨ρ, η, S, s, r, h⟩ => ⟨ρ, η, S, s, r, by
  simp only [ev] at h
  refine (PR.bind h).mono fun ρ1 H1 x S1 st1 s1 h1 v hv => ?_
  refine ⟨v, .ty "dict", _, .type "dict", _, rfl, .ty "dict", by rw [g.K]; exact ty_of hC s1 hv, by rw [g.K]; exact isD_ans it hi (ref_lt s1 hv), h1.here s1 _ (by simp only [VR])⟩⟩
theorem pe_isCi (g : Good G k X) (hC : ∀ c, ClsAll G.K (G.cl c)) (it : IsT G.K (.ref (G.cl c)) false) (hi : PySem.W.kitOne G.K (.ref (G.cl c)) (.ref (G.cl c)) = some true) (hg : Gl X "isinstance") (hm : X.mg "isinstance" = none) (ha : PE X a (tE G M W ca)) (hb : PE X b (L2.tC (.ref (G.cl c))))
    (hs : starEach [a, b] X.env = (false, eval a X.env) :: starEach [b] X.env := by rfl) (hs2 : starEach [b] X.env = (false, eval b X.env) :: starEach [] X.env := by rfl) (hpl : (backTo pos (starEach [b] X.env)).any (·.1) = false := by rfl) :
    PE X (.Call (.Name "isinstance" p) [a, b] [] pos) (tE G M W (.isC c ca)) := (pe_callB call_isi hg hm (by decide +kernel) (pa_cons ha (pa_cons hb pa_nil hs2) hs) (by decide) (by decide) hs hpl).imp fun σ H Q ⟨ρ, η, S, s, r, h⟩ => ⟨ρ, η, S, s, r, by
  simp only [ev] at h
  refine (PR.bind h).mono fun ρ1 H1 x S1 st1 s1 h1 v hv => ?_
  split at h1
  · rename_i d ns vs ei
    split at h1
    · rename_i ed
      subst ed
      obtain ⟨a', dx, fs, rfl, h2, _⟩ := ins_of s1 hv ei
      refine ⟨_, .ref (G.cl c), .ref (G.cl c), .ref (G.cl c), true, rfl, .own _, by rw [g.K]; exact .base (.ins h2 (hC c).cls (hC c).ha (hC c).hn (hC c).htk (hC c).hm), by rw [g.K]; exact hi, h1.here s1 _ (by simp only [VR])⟩
    · exact h1.elim
  · rename_i ei
    exact ⟨v, .ref (G.cl c), _, .ref (G.cl c), false, rfl, .own _, by rw [g.K]; exact ty_of hC s1 hv, by rw [g.K]; exact isC_ans it (ref_lt s1 hv) ei, h1.here s1 _ (by simp only [VR])⟩⟩
end
end Oz
set_option Elab.async false
set_option linter.all false
set_option maxRecDepth 100000
set_option maxHeartbeats 4000000
set_option autoImplicit false
/-! Oz: a, *b = .. ; displays of dicts. -/
namespace Oz
open PySem L2 PyProof.Rows

/-! ### a, .., *b = x -/
section
variable {P : Program} {w : World} {A : Around} {E : Value → Shared → Prop} {I : Addr} {fp wr : List Addr} {GG : Array GenState → Array GenState → Prop} {n : Nat} {Pv : Nat → Value → Prop} {St : Nat → Shared → Prop}
theorem walks_from (W : WalksS P w A I fp wr GG n Pv St) (i0 : Nat) (h : i0 ≤ n) : WalksS P w A I fp wr GG (n - i0) (fun i => Pv (i0 + i)) (fun i => St (i0 + i)) where
  sub := W.sub
  grefl := W.grefl
  gtrans := W.gtrans
  frame := fun i => W.frame (i0 + i)
  item := fun i s Q E hi st hQ => W.item (i0 + i) s Q E (by omega) st hQ
  done := fun s Q E st hQ => W.done s Q E (by rw [show n = i0 + (n - i0) by omega]; exact st) hQ
  self := fun i => W.self (i0 + i)
theorem draw_from (W : WalksS P w A I fp wr GG n Pv St) : ∀ (m i : Nat) (s : Shared) (Q : List Value → Shared → Prop), i + m ≤ n → St i s → (∀ us s', us.length = m → (∀ j, j < m → ∃ u, us[j]? = some u ∧ Pv (i + j) u) → St (i + m) s' → Moved wr GG s s' → Q us s') → wpAny (model P w) A (draw (.ref I) m) Q E s
  | 0, i, s, Q, _, st, hQ => by
    show wpAny _ _ (pure []) Q E s
    exact wpAny_pure (hQ [] s rfl (fun j hj => absurd hj (Nat.not_lt_zero j)) st (Moved.refl W.grefl))
  | m + 1, i, s, Q, hl, st, hQ => by
    show wpAny _ _ (pyNext (.ref I) >>= _) Q E s
    refine wpAny_bind (W.item i s _ _ (by omega) st fun v s1 hv st1 mv1 => ?_)
    refine wpAny_bind (wpAny_holding (draw_from W m (i + 1) s1 _ (by omega) st1 fun us s2 hus hp st2 mv2 => wpAny_pure (hQ _ _ (by simp [hus]) (fun j hj => ?_) (by rw [show i + (m + 1) = i + 1 + m by omega]; exact st2) (Moved.trans W.gtrans mv1 mv2))))
    cases j with
    | zero => exact ⟨v, rfl, hv⟩
    | succ j =>
      obtain ⟨u, h1, h2⟩ := hp j (by omega)
      exact ⟨u, by simpa using h1, by rw [show i + (j + 1) = i + 1 + j by omega]; exact h2⟩
/-- what stands at the places: the items themselves -/
theorem items_at {its : Array Value} {us : List Value} {i m : Nat} (hm : i + m ≤ its.size) (hl : us.length = m) (h : ∀ j, j < m → ∃ u, us[j]? = some u ∧ its[i + j]? = some u) : us = (its.toList.drop i).take m := by
  apply List.ext_getElem?
  intro j
  by_cases hj : j < m
  · obtain ⟨u, h1, h2⟩ := h j hj
    rw [h1, List.getElem?_take, if_pos hj, List.getElem?_drop, Array.getElem?_toList, h2]
  · rw [List.getElem?_eq_none (by omega), List.getElem?_take, if_neg hj]
/-- from an iterator that goes through its -/
theorem unpack_rest {s : Shared} {its : Array Value} {m : Nat} {T : String} {Q : List Value → Shared → Prop} (hT : T = "list_iterator" ∨ T = "tuple_iterator") (W : WalksS P w A.in1 I fp wr (fun a b => b = a) its.size (fun i v => its[i]? = some v) St) (hTy : ∀ i s, St i s → s.TypeIs (.ref I) T) (hst : St 0 s) (hlive : ∀ i s, St i s → ∀ b ∈ fp, b < s.heap.objs.size) (hI : I ∈ fp) (hm : m ≤ its.size) (hz : its.size ≤ sizeLine)
    (hQ : ∀ (s' : Shared) (l : Addr) (h' : Heap), Moved wr (fun a b => b = a) s s' → s'.heap.get? l = none → (∀ b o, s'.heap.get? b = some o → h'.get? b = some o) → s'.heap.objs.size ≤ l → h'.get? l = some { cls := .type "list", data := .seq (its.toList.drop m).toArray } → Q (its.toList.take m ++ [.ref l]) { s' with heap := h' }) :
    wpAny (model P w) A (do
      let first ← holding [.ref I] (draw (.ref I) m)
      if first.length < m then
        rule "unpack.star.too-few-before"
        raiseError "ValueError" s!"not enough values to unpack (expected at least {(m + 1) - 1}, got {first.length})"
      let rest ← holding first (collect (.ref I))
      let after := (m + 1) - 1 - m
      if rest.length < after then
        rule "unpack.star.too-few"
        raiseError "ValueError" s!"not enough values to unpack (expected at least {(m + 1) - 1}, got {m + rest.length})"
      let mid := rest.length - after
      return first ++ [← newList (rest.take mid)] ++ rest.drop mid) Q E s := by
  refine wpAny_bind (wpAny_holding (draw_from W.of_in1 m 0 s _ (by omega) hst fun us s1 hus hp st1 mv1 => ?_))
  have e1 : us = its.toList.take m := by
    have := items_at (i := 0) (by omega) hus (fun j hj => hp j hj)
    rwa [List.drop_zero] at this
  rw [if_neg (by omega)]
  have W2 := walks_from W m hm
  rw [Nat.zero_add] at st1
  have hT4 : T = "str_ascii_iterator" ∨ T = "str_iterator" ∨ T = "list_iterator" ∨ T = "tuple_iterator" := hT.elim (fun z => .inr (.inr (.inl z))) fun z => .inr (.inr (.inr z))
  refine wpAny_bind (wpAny_holding (wpAny_collect_iter hT4 W2 (fun i s st => hTy _ _ st) (by simpa using st1) (hlive _ _ st1) hI (fun s2 acc mv2 ha => ?_) (by omega)))
  have e2 : acc.toList = its.toList.drop m := by
    apply List.ext_getElem?
    intro j
    by_cases hj : j < acc.size
    · have q := ha.2 j acc[j] (Array.getElem?_eq_getElem hj)
      rw [Array.getElem?_toList, Array.getElem?_eq_getElem hj, List.getElem?_drop, Array.getElem?_toList]
      exact q.symm
    · have e := ha.1
      rw [List.getElem?_eq_none (by simp; omega), List.getElem?_eq_none (by simp; omega)]
  have e3 : m + 1 - 1 - m = 0 := by omega
  simp only [e3, Nat.not_lt_zero, if_false, Nat.sub_zero, List.take_length, List.drop_length, List.append_nil]
  rw [e2]
  refine wpAny_bind (wpAny_newList ?_ (by simp; omega))
  rw [e1]
  exact wpAny_pure (hQ s2 s2.heap.objs.size _ (Moved.trans W.gtrans mv1 mv2) (Heap.get?_none_of_le (Nat.le_refl _)) (fun b o e => Heap.get?_push_of_some _ e) (Nat.le_refl _) (Heap.get?_push_size _ rfl))
/-- what unpacking leaves -/
abbrev RestQ (s : Shared) (its : Array Value) (m : Nat) (Q : List Value → Shared → Prop) : Prop := ∀ (s' : Shared) (l : Addr) (h' : Heap), (∀ b o, s.heap.get? b = some o → s'.heap.get? b = some o) → s'.gens = s.gens → s'.os = s.os → (∀ b o, s'.heap.get? b = some o → h'.get? b = some o) → s'.heap.objs.size ≤ l → h'.get? l = some { cls := .type "list", data := .seq (its.toList.drop m).toArray } → Q (its.toList.take m ++ [.ref l]) { s' with heap := h' }
theorem unpack_list {s : Shared} {a : Addr} {its : Array Value} {m : Nat} {Q : List Value → Shared → Prop} (hh : A.handled = none) (hl : s.heap.IsList a its) (hm : m ≤ its.size) (hz : its.size ≤ sizeLine) (hQ : RestQ s its m Q) : wpAny (model P w) A (unpackItems (.ref a) (m + 1) (some m)) Q E s := by
  obtain ⟨o, ho, _⟩ := id hl
  have la : a < s.heap.objs.size := Heap.lt_size ho
  unfold unpackItems notIterableAtAll
  refine wpAny_bind (wpAny_bind (wpAny_specialOf hl.typeIs slot_list_iter.lookup (wpAny_pure ?_)))
  simp only [Bool.false_eq_true, if_false]
  refine wpAny_bind (wpAny_holding (wpAny_pyIter_list hl ?_))
  refine unpack_rest (fp := [s.heap.objs.size, a]) (wr := [s.heap.objs.size]) (T := "list_iterator") (.inl rfl) (Walks.list (A := A.in1) hh s.heap.objs.size a (Nat.ne_of_lt la) its).toS (fun i s st => let ⟨o, ho, hc, _⟩ := st.1; ⟨o, ho, hc⟩) ⟨⟨_, Heap.get?_push_size _ rfl, rfl, rfl⟩, hl.push _⟩ (fun i s2 st b hb => ?_) (by simp) hm hz fun s' l h' mv hn k hle hg => ?_
  · have e : b = s.heap.objs.size ∨ b = a := by simpa using hb
    rcases e with e | e
    · obtain ⟨o, ho, _⟩ := st.1; rw [e]; exact Heap.lt_size ho
    · obtain ⟨o, ho, _⟩ := st.2; rw [e]; exact Heap.lt_size ho
  · exact hQ s' l h' (fun b o e => mv.heap b o (by simp; exact Nat.ne_of_lt (Heap.lt_size e)) (Heap.get?_push_of_some _ e)) mv.gens mv.os k hle hg
theorem unpack_tup {s : Shared} {a : Addr} {its : Array Value} {m : Nat} {Q : List Value → Shared → Prop} (hh : A.handled = none) (hl : IsTup s.heap a its) (hm : m ≤ its.size) (hz : its.size ≤ sizeLine) (hQ : RestQ s its m Q) : wpAny (model P w) A (unpackItems (.ref a) (m + 1) (some m)) Q E s := by
  have ht : s.heap.IsTuple a its := hl
  obtain ⟨o, ho, _⟩ := id ht
  have la : a < s.heap.objs.size := Heap.lt_size ho
  unfold unpackItems notIterableAtAll
  refine wpAny_bind (wpAny_bind (wpAny_specialOf ht.typeIs slot_tuple_iter.lookup (wpAny_pure ?_)))
  simp only [Bool.false_eq_true, if_false]
  refine wpAny_bind (wpAny_holding (wpAny_pyIter_tuple ht ?_))
  refine unpack_rest (fp := [s.heap.objs.size, a]) (wr := [s.heap.objs.size]) (T := "tuple_iterator") (.inr rfl) (Walks.tuple (A := A.in1) hh s.heap.objs.size a (Nat.ne_of_lt la) its).toS (fun i s st => let ⟨o, ho, hc, _⟩ := st.1; ⟨o, ho, hc⟩) ⟨⟨_, Heap.get?_push_size _ rfl, rfl, rfl⟩, ht.push _⟩ (fun i s2 st b hb => ?_) (by simp) hm hz fun s' l h' mv hn k hle hg => ?_
  · have e : b = s.heap.objs.size ∨ b = a := by simpa using hb
    rcases e with e | e
    · obtain ⟨o, ho, _⟩ := st.1; rw [e]; exact Heap.lt_size ho
    · obtain ⟨o, ho, _⟩ := st.2; rw [e]; exact Heap.lt_size ho
  · exact hQ s' l h' (fun b o e => mv.heap b o (by simp; exact Nat.ne_of_lt (Heap.lt_size e)) (Heap.get?_push_of_some _ e)) mv.gens mv.os k hle hg
end
section
variable {G : Glb} {k : Nat} {X : Cx} {M : Mach} {W : WX} {pos p : Pos} {e : Expr} {ce : E}
/-- names, then a name that takes the rest -/
def nmTgs : List Nat → Tgs
  | [] => .nil
  | i :: is => .cons (.nm i) (nmTgs is)
theorem bindN_Ts : ∀ {is : List Nat} {i : Nat} {xs ys : List Vl} {η η1 : Sg}, bindN is xs η = some (η1, ys) → is.length ≤ xs.length ∧ ys = xs.drop is.length ∧ bindTs (nmTgs (is ++ [i])) (xs.take is.length ++ [.lst ys]) η = some (η1.set i (some (.lst ys)))
  | [], i, xs, ys, η, η1, h => by
    simp only [bindN, Option.some.injEq, Prod.mk.injEq] at h
    obtain ⟨rfl, rfl⟩ := h
    exact ⟨Nat.zero_le _, rfl, by simp [nmTgs, bindTs, bindT]⟩
  | i0 :: is, i, [], ys, η, η1, h => by simp [bindN] at h
  | i0 :: is, i, x :: xs, ys, η, η1, h => by
    simp only [bindN] at h
    obtain ⟨h1, h2, h3⟩ := bindN_Ts (i := i) h
    refine ⟨by simpa using h1, by simpa using h2, ?_⟩
    simp only [List.length_cons, List.take_succ_cons, List.cons_append, nmTgs, bindTs, bindT]
    exact h3
theorem pgs_star (g : Good G k X) (i : Nat) {x : Str} {px : Pos} (hi : X.N[i]? = some x) (hx : X.env.scope.names.lookup x = some .local) (ha : (assignEach [.Starred (.Name x px) p] X.env).map (·.2) = [assign (.Name x px) X.env] := by rfl) : PGs X [.Starred (.Name x px) p] (tGs G (.cons (.nm i) .nil)) := by
  refine ⟨fun pins s σ H vs us Q I r ⟨ρ, S, η, xs, η1, s0, re, hv, hb, q⟩ => ?_⟩
  have h1 := (pgs_c (pg_nm (pos := px) g i hi (.inl hx) (.inr hx)) pgs_n).run pins s σ H vs us Q I r ⟨ρ, S, η, xs, η1, s0, re, hv, hb, q⟩
  rw [ha]
  exact h1
theorem ps_stari (g : Good G k X) {is : List Nat} {i kk : Nat} {pt : Pos} {ts : List Expr} (he : PE X e (tE G M W ce)) (hts : PGs X ts (tGs G (nmTgs (is ++ [i]))))
    (hl : (assignEach ts X.env).length = is.length + 1 := by rfl) (hn : (assignEach ts X.env).findIdx? (·.1) = some is.length := by rfl)
    (hs : swapsWithSole [.Tuple ts kk pt] e pos.line X.env = pure false := by rfl) (hw : swappedStores [.Tuple ts kk pt] e X.env = pure none := by rfl)
    (h1 : (assignEach [.Tuple ts kk pt] X.env).map (·.2) = [assign (.Tuple ts kk pt) X.env] := by rfl) :
    PS X (.Assign [.Tuple ts kk pt] e pos) (tC G M W (.star is i ce)) := by
  refine (ps_asg (g := fun v σ H Q => ∃ ρ S η x xs η1 ys, Sim G ρ H S ∧ ER G ρ H η σ ∧ VR G ρ H x v ∧ seqOf S x = some xs ∧ bindN is xs η = some (η1, ys) ∧ ∀ ρ' H' σ', Step ρ H ρ' H' → Sim G ρ' H' S → ER G ρ' H' (η1.set i (some (.lst ys))) σ' → Q σ' H') he ⟨?_⟩ hs hw h1).imp fun D σ H ⟨ρ, η, S, s, r, h⟩ => ⟨ρ, η, S, s, r, ?_⟩
  · intro pins s σ H v u Q I r ⟨ρ, S, η, y, xs, η1, ys, s0, re, hv, hsq, hb, hQ⟩
    obtain ⟨b1, rfl, b3⟩ := bindN_Ts (i := i) hb
    obtain ⟨a, vs, rfl, hq, hvs⟩ := seq_of s0 hv hsq
    cases r
    rw [PyProof.Rows.assign_Tuple]
    refine wpAny_bind (wpAny_standAt ?_)
    unfold unpack
    rw [hn, hl]
    have main : ∀ (its : List Value), Vals vs its → its.length ≤ sizeLine → RestQ s its.toArray is.length (fun us s' => wpAny (model X.prog X.w) X.A (assignInOrder (List.map (·.2) (assignEach ts X.env)) us) (fun _ s' => ∃ σ' H', Inv X pins σ' H' s' ∧ Q σ' H') X.xe s') := fun its rv hz s' l h' k1 kg ko k2 hle hg => by
      have I' : Inv X pins σ H s' := I.call' (ch := []) ko (Un.kept k1) (I.hok.kept k1) (by rw [kg]; exact I.bare) (fun _ z => nomatch z)
      have hn1 : H l = none := I'.hok.fresh hle
      have rd : Vals (vs.drop is.length) (its.drop is.length) := rv.drop _
      have I2 : Inv X pins σ (upd H l (.lst (vs.drop is.length))) { s' with heap := h' } := I'.laid (t' := s'.toks) k2 hle ⟨by rw [List.length_drop, rv.length]; omega, its.drop is.length, 0, rd, by simpa using hg⟩
      have sm : Same H (upd H l (.lst (vs.drop is.length))) := same_new hn1
      have st : Step ρ H ρ (upd H l (.lst (vs.drop is.length))) := stepSame sm
      have rt : Vals (vs.take is.length ++ [V.ref l]) (its.take is.length ++ [Value.ref l]) := (rv.take _).append (.cons rfl .nil)
      have eit : its.toArray.toList = its := by simp
      rw [eit]
      refine hts.run pins _ σ _ _ _ Q I2 rt ⟨ρ, S, η, _, _, s0.same sm, re.step st, (VRs.step st _ _ (hvs.take _)).append (VRs.cons (x := .lst (xs.drop is.length)) ?_ VRs.nil), b3, fun σ' _ er => hQ ρ _ σ' st (s0.same sm) er⟩
      simp only [VR]
      exact ⟨l, vs.drop is.length, rfl, ⟨.inl upd_same, s0.free hn1⟩, VRs.step st _ _ (hvs.drop _)⟩
    rcases hq with hq | hq
    · obtain ⟨its, rv, pl, hz⟩ := I.list (by rw [g.K]; exact hq)
      exact wpAny_bind (wpAny_holding (unpack_list (I.ok.hd g.calm) pl.isList (by simp [← rv.length, ← hvs.length]; exact b1) (by simp [← rv.length]; exact hz) (main its rv (by rw [← rv.length]; exact hz))))
    · obtain ⟨its, rv, pl, hz⟩ := I.tuple (by rw [g.K]; exact hq)
      exact wpAny_bind (wpAny_holding (unpack_tup (I.ok.hd g.calm) pl (by simp [← rv.length, ← hvs.length]; exact b1) (by simp [← rv.length]; exact hz) (main its rv (by rw [← rv.length]; exact hz))))
  · simp only [exc1] at h
    refine (PQ.out s r h).mono fun ρ1 H1 x S1 st s1 h1 v hv => ?_
    split at h1
    · rename_i xs ex
      split at h1
      · rename_i η1 ys eb
        exact ⟨ρ1, S1, η, x, xs, η1, ys, s1, r.step st, hv, ex, eb, fun ρ' H' σ' st' s' r' => h1 ρ' H' σ' st' s' r'⟩
      · exact h1.elim
    · exact h1.elim
/-! ### {k: v, ..} -/
section
variable {G : Glb} {k : Nat} {X : Cx} {M : Mach} {W : WX} {pos : Pos}
def disT (G : Glb) (M : Mach) (W : WX) : List Str → Es → List (TE × TE)
  | z :: zs, .cons e es => (L2.tC (.str z), tE G M W e) :: disT G M W zs es
  | _, _ => []
theorem disT_run : ∀ (zs : List Str) (es : Es) (ρ : List Addr) (η : Sg) (S : Hs) (σ : L2.St) (H : Hp) (Q : List (V × V) → Hp → Prop), zs.length = es.len → Sim G ρ H S → ER G ρ H η σ →
    PR G W σ ρ H (evs M es η S) (fun ρ' H' xs S' => ∀ vs, VRs G ρ' H' xs vs → Q ((zs.map V.str).zip vs) H') → tPairs (disT G M W zs es) σ H Q
  | [], .nil, ρ, η, S, σ, H, Q, _, s, _, h => by
    simp only [evs] at h
    exact h.here s [] VRs.nil
  | [], .cons _ _, _, _, _, _, _, _, hl, _, _, _ => by simp [Es.len] at hl
  | _ :: _, .nil, _, _, _, _, _, _, hl, _, _, _ => by simp [Es.len] at hl
  | z :: zs, .cons e es, ρ, η, S, σ, H, Q, hl, s, r, h => by
    simp only [evs] at h
    refine ⟨ρ, η, S, s, r, (PR.bind h).mono fun ρ1 H1 x S1 st1 s1 h1 v hv => ?_⟩
    refine disT_run zs es ρ1 η S1 σ H1 _ (by simpa [Es.len] using hl) s1 (r.step st1) ((PR.bind h1).mono fun ρ2 H2 xs S2 st2 s2 h2 vs hvs => ?_)
    exact (h2.here s2) _ (VRs.cons (hv.step st2) hvs)
theorem put_new {κ : Type} [DecidableEq κ] {kvs : List (κ × V)} {j : κ} {v : V} (h : j ∉ kvs.map (·.1)) : putK kvs j v = kvs ++ [(j, v)] := by
  unfold putK
  rw [if_neg]
  intro z
  obtain ⟨p, hp, e⟩ := List.any_eq_true.mp z
  exact h (List.mem_map.mpr ⟨p, hp, of_decide_eq_true e⟩)
theorem merge_new : ∀ (more kvs : List (Key × V)), (kvs.map (·.1) ++ more.map (·.1)).Nodup → mergeK kvs more = kvs ++ more
  | [], kvs, _ => by simp [mergeK]
  | p :: more, kvs, h => by
    have hp : p.1 ∉ kvs.map (·.1) := fun z => (List.nodup_append.mp h).2.2 p.1 z p.1 (by simp) rfl
    show mergeK (putK kvs p.1 p.2) more = _
    rw [put_new hp, merge_new more _ (by simpa using h)]
    simp
theorem pf_dsp (g : Good G k X) {zs : List Str} {ces : Es} {keys : List (Option Expr)} {values : List Expr} (h : PPs X pos keys values (disT G M W zs ces)) (hz : zs.length = ces.len) (hall : keys.all (·.isSome) = true) (hl : keys.length = values.length) (h0 : keys ≠ []) (h15 : keys.length ≤ 15) : PE X (.Dict keys values pos) (tF G M W (.dsp zs ces)) := (pe_disp h hall hl h0 h15).imp fun σ H Q ⟨ρ, η, S, s, r, h⟩ p hp => by
  simp only [evf] at h
  have sn : Sim G (ρ ++ [p]) (upd H p (.dK [])) (S ++ [.dct [] []]) := s.new hp ⟨[], upd_same, rfl, VRs.nil⟩
  have stn : Step ρ H (ρ ++ [p]) (upd H p (.dK [])) := (stepSame (same_new hp)).one hp
  refine disT_run zs ces (ρ ++ [p]) η (S ++ [.dct [] []]) σ _ _ hz sn (r.step stn) ?_
  cases e : evs M ces η (S ++ [.dct [] []]) with
  | bad => rw [e] at h; exact h.elim
  | exc x T => rw [e] at h; exact h.elim
  | ok xs T =>
    rw [e] at h
    simp only at h
    split at h
    · rename_i hc
      obtain ⟨rfl, hlim, hnd, hlen, h15'⟩ := hc
      refine fun ρ2 H2 st2 s2 vs hvs => ?_
      have e2 : ρ2 = ρ ++ [p] := pre_eq st2.pre (by rw [s2.len, sn.len])
      subst e2
      have rp : (ρ ++ [p])[S.length]? = some p := by rw [← s.len]; simp
      obtain ⟨kvs0, g1, g2, _⟩ := s2.at_ S.length (.dct [] []) p (by simp) rp
      have g3 : kvs0 = [] := List.map_eq_nil_iff.mp g2
      subst g3
      have lv : (zs.map (Sum.inr : Str → Key)).length = vs.length := by rw [List.length_map, hlen, hvs.length]
      refine ⟨g1, (zs.map (Sum.inr : Str → Key)).zip vs, ?_, ?_, ?_⟩
      · rw [List.zip_map_left, List.zip_map_left, List.map_map]
        exact List.map_congr_left fun q _ => rfl
      · rw [List.length_zip, List.length_map]; omega
      · have em : mergeK [] ((zs.map (Sum.inr : Str → Key)).zip vs) = (zs.map (Sum.inr : Str → Key)).zip vs := merge_new _ [] (by
          rw [List.map_nil, List.nil_append, List.map_fst_zip (by omega)]
          exact List.Pairwise.map _ (fun a b ne z => ne (Sum.inr.inj z)) hnd)
        rw [em]
        have pρ : p ∉ ρ := s.free hp
        obtain ⟨st3, s3⟩ := Sim.put (ho := .dK ((zs.map (Sum.inr : Str → Key)).zip vs)) (o2 := .dct (zs.map Sum.inr) xs) s2 rp (by
          have st' : Step (ρ ++ [p]) H2 (ρ ++ [p]) (upd H2 p (.dK ((zs.map (Sum.inr : Str → Key)).zip vs))) := ⟨List.prefix_refl _, fun b o hb hn => by
            rw [upd_ne fun z => hn (by subst z; simp)]; exact hb, fun b hb => .inl hb⟩
          exact ⟨_, upd_same, List.map_fst_zip (by omega), by rw [List.map_snd_zip (by omega)]; exact VRs.step st' _ _ hvs⟩)
        have eS : (S ++ [Ob.dct [] []]).set S.length (.dct (zs.map Sum.inr) xs) = S ++ [.dct (zs.map Sum.inr) xs] := by simp
        rw [eS] at s3
        have sc : Sim G ρ (upd H2 p (.dK ((zs.map (Sum.inr : Str → Key)).zip vs))) S := s3.cut s.len s.lims
        have stc : Step ρ H ρ (upd H2 p (.dK ((zs.map (Sum.inr : Str → Key)).zip vs))) := ⟨List.prefix_refl _, fun a o hh na => by
          have nap : a ≠ p := fun z => by subst z; rw [hp] at hh; cases hh
          rw [upd_ne nap]
          exact st2.keep a o (by rw [upd_ne nap]; exact hh) (by simp [na, nap]), fun a ha => .inl ha⟩
        have fin := h ρ _ stc sc
        refine fin p hp pρ (OR.less (τ := [p]) (s3.at_ S.length (.dct (zs.map Sum.inr) xs) p (by simp) rp) ?_) s3
        rw [s.len]; exact hlim
    · exact h.elim
end
end
end Oz
set_option Elab.async false
set_option linter.all false
set_option maxRecDepth 100000
set_option maxHeartbeats 4000000
set_option autoImplicit false
/-! Oz: defs. -/
namespace Oz
open PySem L2 PyProof.Rows

/-! ### what a def hands back -/
mutual
def Vl.mapO (f : Nat → Option Vl) : Vl → Option Vl
  | .tup xs => (mapOs f xs).map .tup
  | .lst xs => (mapOs f xs).map .lst
  | .dct ks xs => (mapOs f xs).map (.dct ks)
  | .obj c ns xs => (mapOs f xs).map (.obj c ns)
  | .ref r => f r
  | .non => some .non | .bl b => some (.bl b) | .int i => some (.int i) | .str s => some (.str s)
def mapOs (f : Nat → Option Vl) : List Vl → Option (List Vl)
  | [] => some []
  | x :: xs => (Vl.mapO f x).bind fun y => (mapOs f xs).map fun ys => y :: ys
end
def Ob.mapO (f : Nat → Option Vl) : Ob → Option Ob
  | .lst xs => (mapOs f xs).map .lst
  | .dct ks xs => (mapOs f xs).map (.dct ks)
  | .ins c ns xs => (mapOs f xs).map (.ins c ns)
/-- what stands behind new references, told whole; r0 alone not -/
def fI (n r0 : Nat) (T : Hs) : Nat → Nat → Option Vl
  | 0, r => if r < n then some (.ref r) else none
  | k + 1, r => if r < n then some (.ref r) else if r = r0 then none else match T[r]? with
    | some o => (o.mapO (fI n r0 T k)).map Ob.inl
    | none => none
def depI : Nat := 6
/-- the answer, where all that is new is left behind -/
def finV (n : Nat) (T : Hs) : Vl → Res Rv
  | .ref r => if r < n then .ok (.val (.ref r)) (T.take n) else match T[r]? with
    | some o => match o.mapO (fI n r T depI) with
      | some o' => .ok (.frs o') (T.take n)
      | none => .bad
    | none => .bad
  | v => match v.mapO (fI n T.length T depI) with
    | some v' => .ok (.val v') (T.take n)
    | none => .bad
def finR (n : Nat) (r : Rv) (T : Hs) : Res Rv := if (T.take n).all (Ob.lim n) = true then (match r with
    | .val v => finV n T v
    | .frs o => finV n (T ++ [o]) (.ref T.length))
  else .ok r T
def finX (n : Nat) (x : Xc) (T : Hs) : Res Rv := if (T.take n).all (Ob.lim n) = true ∧ x.lim n = true then .exc x (T.take n) else .exc x T
structure Dfn where
  np : Nat
  nn : Nat
  body : Cs
noncomputable def calD (M : Mach) (d : Dfn) (xs : List Vl) (S : Hs) : Res Rv := if xs.length = d.np then match exec M d.body (xs.map some ++ List.replicate (d.nn - xs.length) none) S with
  | .ret r T => finR S.length r T
  | .nx _ T => finR S.length (.val .non) T
  | .exc x _ T => finX S.length x T
  | _ => .bad
  else .bad
/-! ### why that is so -/
section
variable {G : Glb} {ρ ρ' ρ'' : List Addr} {H : Hp} {S T : Hs} {n r0 : Nat}
mutual
theorem mapO_ok {f : Nat → Option Vl} (hs : ∀ a, a ∈ ρ'' → a ∈ ρ') (hf : ∀ r w y, VR G ρ' H (.ref r) w → f r = some y → VR G ρ'' H y w ∧ y.lim n = true) : ∀ (x : Vl) (w : V) (y : Vl), VR G ρ' H x w → x.mapO f = some y → VR G ρ'' H y w ∧ y.lim n = true
  | .non, w, y, h, e | .bl _, w, y, h, e | .int _, w, y, h, e | .str _, w, y, h, e => by
    simp only [Vl.mapO, Option.some.injEq] at e
    subst e
    simp only [VR] at h ⊢
    exact ⟨h, by simp [Vl.lim]⟩
  | .tup xs, w, y, h, e => by
    simp only [Vl.mapO] at e
    obtain ⟨ys, e1, rfl⟩ := Option.map_eq_some_iff.mp e
    simp only [VR] at h ⊢
    obtain ⟨a, vs, rfl, h1, h2⟩ := h
    obtain ⟨i1, i2⟩ := mapOs_ok hs hf xs vs ys h2 e1
    exact ⟨⟨a, vs, rfl, h1.imp (fun q => ⟨q.1, fun z => q.2 (hs a z)⟩) id, i1⟩, by simp only [Vl.lim]; exact i2⟩
  | .lst xs, w, y, h, e => by
    simp only [Vl.mapO] at e
    obtain ⟨ys, e1, rfl⟩ := Option.map_eq_some_iff.mp e
    simp only [VR] at h ⊢
    obtain ⟨a, vs, rfl, h1, h2⟩ := h
    obtain ⟨i1, i2⟩ := mapOs_ok hs hf xs vs ys h2 e1
    exact ⟨⟨a, vs, rfl, ⟨h1.1, fun z => h1.2 (hs a z)⟩, i1⟩, by simp only [Vl.lim]; exact i2⟩
  | .dct ks xs, w, y, h, e => by
    simp only [Vl.mapO] at e
    obtain ⟨ys, e1, rfl⟩ := Option.map_eq_some_iff.mp e
    simp only [VR] at h ⊢
    obtain ⟨a, vs, rfl, h1, hn, hk, h2⟩ := h
    obtain ⟨i1, i2⟩ := mapOs_ok hs hf xs _ ys h2 e1
    exact ⟨⟨a, vs, rfl, h1, fun z => hn (hs a z), hk, i1⟩, by simp only [Vl.lim]; exact i2⟩
  | .obj c ns xs, w, y, h, e => by
    simp only [Vl.mapO] at e
    obtain ⟨ys, e1, rfl⟩ := Option.map_eq_some_iff.mp e
    simp only [VR] at h ⊢
    obtain ⟨a, dx, vs, rfl, h1, hn, hk, h2⟩ := h
    obtain ⟨i1, i2⟩ := mapOs_ok hs hf xs _ ys h2 e1
    exact ⟨⟨a, dx, vs, rfl, h1, fun z => hn (hs a z), hk, i1⟩, by simp only [Vl.lim]; exact i2⟩
  | .ref r, w, y, h, e => by
    simp only [Vl.mapO] at e
    exact hf r w y h e
theorem mapOs_ok {f : Nat → Option Vl} (hs : ∀ a, a ∈ ρ'' → a ∈ ρ') (hf : ∀ r w y, VR G ρ' H (.ref r) w → f r = some y → VR G ρ'' H y w ∧ y.lim n = true) : ∀ (xs : List Vl) (ws : List V) (ys : List Vl), VRs G ρ' H xs ws → mapOs f xs = some ys → VRs G ρ'' H ys ws ∧ limAll n ys = true
  | [], ws, ys, h, e => by
    simp only [mapOs, Option.some.injEq] at e
    subst e
    simp only [VRs] at h ⊢
    exact ⟨h, by simp [limAll]⟩
  | x :: xs, ws, ys, h, e => by
    simp only [mapOs] at e
    obtain ⟨y, e1, e2⟩ := Option.bind_eq_some_iff.mp e
    obtain ⟨zs, e3, rfl⟩ := Option.map_eq_some_iff.mp e2
    simp only [VRs] at h ⊢
    obtain ⟨w, r, rfl, h1, h2⟩ := h
    obtain ⟨i1, i2⟩ := mapO_ok hs hf x w y h1 e1
    obtain ⟨j1, j2⟩ := mapOs_ok hs hf xs r zs h2 e3
    exact ⟨⟨w, r, rfl, i1, j1⟩, by simp only [limAll, i2, j2, Bool.and_self]⟩
end
theorem obO_ok {f : Nat → Option Vl} (hs : ∀ a, a ∈ ρ'' → a ∈ ρ') (hf : ∀ r w y, VR G ρ' H (.ref r) w → f r = some y → VR G ρ'' H y w ∧ y.lim n = true) {o o' : Ob} {a : Addr} (h : OR G ρ' H a o) (e : o.mapO f = some o') : OR G ρ'' H a o' ∧ o'.lim n = true := by
  cases o with
  | lst xs =>
    obtain ⟨ys, e1, rfl⟩ := Option.map_eq_some_iff.mp (show (mapOs f xs).map _ = some o' from e)
    obtain ⟨vs, h1, h2⟩ := h
    obtain ⟨i1, i2⟩ := mapOs_ok hs hf xs vs ys h2 e1
    exact ⟨⟨vs, h1, i1⟩, i2⟩
  | dct ks xs =>
    obtain ⟨ys, e1, rfl⟩ := Option.map_eq_some_iff.mp (show (mapOs f xs).map _ = some o' from e)
    obtain ⟨vs, h1, hk, h2⟩ := h
    obtain ⟨i1, i2⟩ := mapOs_ok hs hf xs _ ys h2 e1
    exact ⟨⟨vs, h1, hk, i1⟩, i2⟩
  | ins c ns xs =>
    obtain ⟨ys, e1, rfl⟩ := Option.map_eq_some_iff.mp (show (mapOs f xs).map _ = some o' from e)
    obtain ⟨dx, vs, h1, hk, h2⟩ := h
    obtain ⟨i1, i2⟩ := mapOs_ok hs hf xs _ ys h2 e1
    exact ⟨⟨dx, vs, h1, hk, i1⟩, i2⟩
/-- the telling of new references is right: ρ'' holds the old ones and at most what stands at r0 -/
theorem fI_ok (s : Sim G ρ' H T) (hp : ρ'.take n = ρ''.take n) (hs : ∀ a, a ∈ ρ'' → a ∈ ρ') (hn : n ≤ ρ''.length) (h0 : ∀ r a, ρ'[r]? = some a → n ≤ r → r ≠ r0 → a ∉ ρ'') : ∀ (k r : Nat) (w : V) (y : Vl), VR G ρ' H (.ref r) w → fI n r0 T k r = some y → VR G ρ'' H y w ∧ y.lim n = true
  | 0, r, w, y, h, e => by
    unfold fI at e
    split at e
    · rename_i hr
      cases e
      simp only [VR] at h ⊢
      obtain ⟨a, rfl, ha⟩ := h
      refine ⟨⟨a, rfl, ?_⟩, by simp [Vl.lim, hr]⟩
      rw [← List.getElem?_take_of_lt (l := ρ'') hr, ← hp, List.getElem?_take_of_lt hr]
      exact ha
    · cases e
  | k + 1, r, w, y, h, e => by
    unfold fI at e
    split at e
    · rename_i hr
      cases e
      simp only [VR] at h ⊢
      obtain ⟨a, rfl, ha⟩ := h
      refine ⟨⟨a, rfl, ?_⟩, by simp [Vl.lim, hr]⟩
      rw [← List.getElem?_take_of_lt (l := ρ'') hr, ← hp, List.getElem?_take_of_lt hr]
      exact ha
    · rename_i hr
      split at e
      · cases e
      · rename_i hr0
        split at e
        · rename_i o eo
          obtain ⟨o', e1, rfl⟩ := Option.map_eq_some_iff.mp e
          obtain ⟨a, rfl, ha, ho⟩ := s.ref h eo
          obtain ⟨i1, i2⟩ := obO_ok hs (fI_ok s hp hs hn h0 k) ho e1
          have na := h0 r a ha (by omega) hr0
          refine ⟨i1.inl na, ?_⟩
          cases o' <;> exact i2
        · cases e
-- from more references to fewer, for values that know only old ones
mutual
theorem VR.sub (hp : ρ'.take n = ρ''.take n) (hs : ∀ a, a ∈ ρ'' → a ∈ ρ') : ∀ (x : Vl) (v : V), VR G ρ' H x v → x.lim n = true → VR G ρ'' H x v
  | .non, _, h, _ | .bl _, _, h, _ | .int _, _, h, _ | .str _, _, h, _ => by simpa only [VR] using h
  | .tup xs, v, h, l => by
    simp only [VR] at h ⊢
    simp only [Vl.lim] at l
    obtain ⟨a, vs, e, h1, h2⟩ := h
    exact ⟨a, vs, e, h1.imp (fun q => ⟨q.1, fun z => q.2 (hs a z)⟩) id, VRs.sub hp hs xs vs h2 l⟩
  | .lst xs, v, h, l => by
    simp only [VR] at h ⊢
    simp only [Vl.lim] at l
    obtain ⟨a, vs, e, h1, h2⟩ := h
    exact ⟨a, vs, e, ⟨h1.1, fun z => h1.2 (hs a z)⟩, VRs.sub hp hs xs vs h2 l⟩
  | .dct ks xs, v, h, l => by
    simp only [VR] at h ⊢
    simp only [Vl.lim] at l
    obtain ⟨a, vs, e, h1, hn, h2, h3⟩ := h
    exact ⟨a, vs, e, h1, fun z => hn (hs a z), h2, VRs.sub hp hs xs _ h3 l⟩
  | .obj c ns xs, v, h, l => by
    simp only [VR] at h ⊢
    simp only [Vl.lim] at l
    obtain ⟨a, dx, vs, e, h1, hn, h2, h3⟩ := h
    exact ⟨a, dx, vs, e, h1, fun z => hn (hs a z), h2, VRs.sub hp hs xs _ h3 l⟩
  | .ref r, v, h, l => by
    simp only [VR] at h ⊢
    simp only [Vl.lim, decide_eq_true_eq] at l
    obtain ⟨a, e, h1⟩ := h
    exact ⟨a, e, by rw [← List.getElem?_take_of_lt (l := ρ'') l, ← hp, List.getElem?_take_of_lt l]; exact h1⟩
theorem VRs.sub (hp : ρ'.take n = ρ''.take n) (hs : ∀ a, a ∈ ρ'' → a ∈ ρ') : ∀ (xs : List Vl) (vs : List V), VRs G ρ' H xs vs → limAll n xs = true → VRs G ρ'' H xs vs
  | [], _, h, _ => by simpa only [VRs] using h
  | x :: xs, vs, h, l => by
    simp only [VRs] at h ⊢
    simp only [limAll, Bool.and_eq_true] at l
    obtain ⟨v, r, e, h1, h2⟩ := h
    exact ⟨v, r, e, VR.sub hp hs x v h1 l.1, VRs.sub hp hs xs r h2 l.2⟩
end
theorem OR.sub (hp : ρ'.take n = ρ''.take n) (hs : ∀ a, a ∈ ρ'' → a ∈ ρ') {a : Addr} {o : Ob} (h : OR G ρ' H a o) (l : o.lim n = true) : OR G ρ'' H a o := by
  cases o with
  | lst xs => obtain ⟨vs, h1, h2⟩ := h; exact ⟨vs, h1, VRs.sub hp hs _ _ h2 l⟩
  | dct ks xs => obtain ⟨vs, h1, h2, h3⟩ := h; exact ⟨vs, h1, h2, VRs.sub hp hs _ _ h3 l⟩
  | ins c ns xs => obtain ⟨dx, vs, h1, h2, h3⟩ := h; exact ⟨dx, vs, h1, h2, VRs.sub hp hs _ _ h3 l⟩
end
section
variable {G : Glb} {ρ ρ' : List Addr} {H H' : Hp} {S T : Hs} {Q : VK}
/-- where all that is new is left behind -/
theorem finV_ok {W : WX} {σ : L2.St} (s : Sim G ρ H S) (st : Step ρ H ρ' H') (s' : Sim G ρ' H' T) (hl : (T.take S.length).all (Ob.lim S.length) = true) (v : Vl) (w : V) (hv : VR G ρ' H' v w)
    (h : PR G W σ ρ H (finV S.length T v) (okR G H Q)) : Q w H' := by
  obtain ⟨τ, rfl⟩ := st.pre
  have hsl := s.len
  have all := List.all_eq_true.mp hl
  have hT : S.length ≤ T.length := by rw [← hsl, ← s'.len, List.length_append]; omega
  have lt : (T.take S.length).length = S.length := by rw [List.length_take]; omega
  have eT : T.take S.length ++ T.drop S.length = T := List.take_append_drop _ _
  have sc : Sim G ρ H' (T.take S.length) := Sim.cut (τ := τ) (T := T.drop S.length) (by rw [eT]; exact s') (by rw [lt]; exact hsl) fun r o e => by rw [lt]; exact all o (List.mem_of_getElem? e)
  have stc : Step ρ H ρ H' := ⟨List.prefix_refl _, st.keep, fun a ha => .inl ha⟩
  -- a value that is no reference
  have val : ∀ v', v.mapO (fI S.length T.length T depI) = some v' → finV S.length T v = .ok (.val v') (T.take S.length) → Q w H' := fun v' e1 e2 => by
    rw [e2] at h
    have q := h ρ H' stc sc
    refine q w (mapO_ok (ρ'' := ρ) (n := S.length) (fun a ha => List.mem_append_left _ ha) (fI_ok s' (by rw [List.take_append_of_le_length (by omega)]) (fun a ha => List.mem_append_left _ ha) (by omega) (fun r a ha hr _ => ?_) depI) v w v' hv e1).1
    intro ha2
    obtain ⟨i, hi⟩ := List.getElem?_of_mem ha2
    have hi2 : (ρ ++ τ)[i]? = some a := by rw [List.getElem?_append_left (lt_of_get hi)]; exact hi
    have := (List.getElem?_inj (lt_of_get hi2) s'.nd).mp (hi2.trans ha.symm)
    have := lt_of_get hi
    omega
  cases v with
  | ref r =>
    by_cases hr : r < S.length
    · have e : finV S.length T (.ref r) = .ok (.val (.ref r)) (T.take S.length) := by
        show (if r < S.length then (.ok (.val (.ref r)) (T.take S.length) : Res Rv) else _) = _
        rw [if_pos hr]
      rw [e] at h
      exact h ρ H' stc sc w (VR.less _ _ hv (by simp [Vl.lim, hsl, hr]))
    · have e : finV S.length T (.ref r) = match T[r]? with
          | some o => match o.mapO (fI S.length r T depI) with
            | some o' => .ok (.frs o') (T.take S.length)
            | none => .bad
          | none => .bad := by
        show (if r < S.length then (.ok (.val (.ref r)) (T.take S.length) : Res Rv) else _) = _
        rw [if_neg hr]
      rw [e] at h
      split at h
      · rename_i o eo
        split at h
        · rename_i o' e1
          obtain ⟨a, rfl, ha, ho⟩ := s'.ref hv eo
          have aρ : a ∉ ρ := fun z => by
            obtain ⟨i, hi⟩ := List.getElem?_of_mem z
            have hi2 : (ρ ++ τ)[i]? = some a := by rw [List.getElem?_append_left (lt_of_get hi)]; exact hi
            have := (List.getElem?_inj (lt_of_get hi2) s'.nd).mp (hi2.trans ha.symm)
            have := lt_of_get hi
            omega
          have aτ : a ∈ ρ ++ τ := List.mem_of_getElem? ha
          have hs2 : ∀ b, b ∈ ρ ++ [a] → b ∈ ρ ++ τ := fun b hb => (List.mem_append.mp hb).elim (fun z => List.mem_append_left _ z) fun z => by rw [List.mem_singleton.mp z]; exact aτ
          have hp2 : (ρ ++ τ).take S.length = (ρ ++ [a]).take S.length := by rw [List.take_append_of_le_length (by omega), List.take_append_of_le_length (by omega)]
          obtain ⟨i1, i2⟩ := obO_ok (ρ'' := ρ ++ [a]) (n := S.length) hs2 (fI_ok (r0 := r) s' hp2 hs2 (by simp; omega) (fun r' b hb hr' hne z => by
            rcases List.mem_append.mp z with z | z
            · obtain ⟨i, hi⟩ := List.getElem?_of_mem z
              have hi2 : (ρ ++ τ)[i]? = some b := by rw [List.getElem?_append_left (lt_of_get hi)]; exact hi
              have := (List.getElem?_inj (lt_of_get hi2) s'.nd).mp (hi2.trans hb.symm)
              have := lt_of_get hi
              omega
            · rw [List.mem_singleton.mp z] at hb
              exact hne ((List.getElem?_inj (lt_of_get hb) s'.nd).mp (hb.trans ha.symm))) depI) ho e1
          have q := h ρ H' stc sc
          have hH : H a = none := (st.new a aτ).elim (fun z => (aρ z).elim) id
          refine q a hH aρ (OR.less (τ := [a]) i1 (by rw [hsl]; exact i2)) ⟨by rw [List.length_append, List.length_append, lt, hsl]; rfl, ?_, fun r' u b hr' hb => ?_⟩
          · rw [List.nodup_append]
            exact ⟨s.nd, by simp, fun x hx y hy => by rw [List.mem_singleton.mp hy]; exact fun z => aρ (z ▸ hx)⟩
          · by_cases h1 : r' < S.length
            · rw [List.getElem?_append_left (by omega)] at hr'
              rw [List.getElem?_append_left (by omega)] at hb
              have hr2 : T[r']? = some u := by rw [List.getElem?_take_of_lt h1] at hr'; exact hr'
              have hb2 : (ρ ++ τ)[r']? = some b := by rw [List.getElem?_append_left (by omega)]; exact hb
              exact OR.sub hp2 hs2 (s'.at_ r' u b hr2 hb2) (all u (List.mem_of_getElem? hr'))
            · have h2 : r' = S.length := by
                have := lt_of_get hr'
                rw [List.length_append, lt] at this
                simp at this
                omega
              subst h2
              have e3 : u = o' := by
                rw [List.getElem?_append_right (by omega), lt] at hr'
                simpa using hr'.symm
              have e4 : b = a := by
                rw [List.getElem?_append_right (by omega), hsl] at hb
                simpa using hb.symm
              subst e3 e4
              exact i1
        · exact h.elim
      · exact h.elim
  | non => exact val .non rfl rfl
  | bl b => exact val (.bl b) rfl rfl
  | int b => exact val (.int b) rfl rfl
  | str b => exact val (.str b) rfl rfl
  | tup xs =>
    cases e : (Vl.tup xs).mapO (fI S.length T.length T depI) with
    | some v' => exact val v' e (by unfold finV; simp only [e])
    | none => rw [show finV S.length T (.tup xs) = .bad by unfold finV; simp only [e]] at h; exact h.elim
  | lst xs =>
    cases e : (Vl.lst xs).mapO (fI S.length T.length T depI) with
    | some v' => exact val v' e (by unfold finV; simp only [e])
    | none => rw [show finV S.length T (.lst xs) = .bad by unfold finV; simp only [e]] at h; exact h.elim
  | dct ks xs =>
    cases e : (Vl.dct ks xs).mapO (fI S.length T.length T depI) with
    | some v' => exact val v' e (by unfold finV; simp only [e])
    | none => rw [show finV S.length T (.dct ks xs) = .bad by unfold finV; simp only [e]] at h; exact h.elim
  | obj c ns xs =>
    cases e : (Vl.obj c ns xs).mapO (fI S.length T.length T depI) with
    | some v' => exact val v' e (by unfold finV; simp only [e])
    | none => rw [show finV S.length T (.obj c ns xs) = .bad by unfold finV; simp only [e]] at h; exact h.elim
theorem fin_PQ {M : Mach} {d : Dfn} {xs : List Vl} {E : XK} (s : Sim G ρ H S) (hl : xs.length = d.np) (h : PR G (fun cls d _ H' => E cls d H') [] ρ H (calD M d xs S) (okR G H Q)) :
    PQ G (fun cls d _ H' => E cls d H') ρ H { nx := fun _ H' => Q .non H', rt := Q } (exec M d.body (xs.map some ++ List.replicate (d.nn - xs.length) none) S) := by
  unfold calD at h
  rw [if_pos hl] at h
  have nT : ∀ {ρ' : List Addr} {H' : Hp} {T : Hs}, Step ρ H ρ' H' → Sim G ρ' H' T → S.length ≤ T.length := fun st s' => by
    obtain ⟨τ, e⟩ := st.pre
    rw [← s.len, ← s'.len, ← e, List.length_append]; omega
  cases eo : exec M d.body (xs.map some ++ List.replicate (d.nn - xs.length) none) S with
  | bad => rw [eo] at h; exact h.elim
  | brk η T => rw [eo] at h; exact h.elim
  | cnt η T => rw [eo] at h; exact h.elim
  | nx η T =>
    rw [eo] at h
    simp only [finR] at h
    refine fun ρ' H' σ' st s' _ => ?_
    split at h
    · rename_i hc
      exact finV_ok s st s' hc .non .non (by simp only [VR]) h
    · exact h ρ' H' st s' .non (by simp only [VR])
  | ret r T =>
    rw [eo] at h
    simp only [finR] at h
    refine fun ρ' H' st s' => ?_
    split at h
    · rename_i hc
      cases r with
      | val v => exact fun w hw => finV_ok s st s' hc v w hw h
      | frs o =>
        refine fun p hp hn ho hs => ?_
        have hle := nT st s'
        refine finV_ok (T := T ++ [o]) s (st.one hp) hs (by rw [List.take_append_of_le_length hle]; exact hc) (.ref T.length) (.ref p) ?_ h
        simp only [VR]
        exact ⟨p, rfl, by rw [← s'.len]; simp⟩
    · exact h ρ' H' st s'
  | exc x η T =>
    rw [eo] at h
    simp only [finX] at h
    refine fun ρ' H' σ' st s' _ => ?_
    split at h
    · rename_i hc
      have hle := nT st s'
      obtain ⟨τ, rfl⟩ := st.pre
      have lt : (T.take S.length).length = S.length := by rw [List.length_take]; omega
      have eT : T.take S.length ++ T.drop S.length = T := List.take_append_drop _ _
      have all := List.all_eq_true.mp hc.1
      have sc : Sim G ρ H' (T.take S.length) := Sim.cut (τ := τ) (T := T.drop S.length) (by rw [eT]; exact s') (by rw [lt]; exact s.len) fun r o e => by rw [lt]; exact all o (List.mem_of_getElem? e)
      have q := h ρ H' ⟨List.prefix_refl _, st.keep, fun a ha => .inl ha⟩ sc
      have hx := hc.2
      unfold XW at q ⊢
      unfold Xc.lim at hx
      split at q
      · exact q
      · rename_i ns vs e
        exact fun d fs h1 h2 h3 h4 => q d fs h1 (fun z => h2 (List.mem_append_left _ z)) h3 (VRs.less _ _ h4 (by rw [s.len]; have z := hx; rw [e] at z; exact z))
    · have q := h ρ' H' st s'
      unfold XW at q ⊢
      exact q
end
/-! ### a def -/
section
variable {G : Glb} {P : Program} {w : World} {K : PySem.W.Frag} {mg : Str → Option Value} {base : Heap}
theorem start_ER {ρ : List Addr} {H : Hp} {xs : List Vl} {vs : List V} {N : List Str} {nn : Nat} (hn : nn = N.length) (h : VRs G ρ H xs vs) : ER G ρ H (xs.map some ++ List.replicate (nn - xs.length) none) (L2.start N vs) where
  len := by unfold L2.start; simp [h.length, hn]
  at_ := fun i x e => by
    unfold L2.start
    by_cases hi : i < xs.length
    · rw [List.getElem?_append_left (by simpa using hi)] at e
      rw [List.getElem?_append_left (by simp [← h.length]; exact hi)]
      rw [List.getElem?_map] at e ⊢
      cases ex : xs[i]? with
      | none => rw [ex] at e; cases e
      | some y =>
        rw [ex] at e
        obtain ⟨v, e1, e2⟩ := h.get ex
        simp only [Option.map_some, Option.some.injEq] at e
        subst e
        exact ⟨v, by rw [e1]; rfl, e2⟩
    · rw [List.getElem?_append_right (by simp; omega)] at e
      rw [List.getElem?_replicate] at e
      split at e <;> simp at e
theorem g_of {k : Nat} {f : Addr} {x qual q : Str} {params : Arguments} {body : List Stmt} {scope : Scope} {dvs : List V} {kws : List (Str × V)} {fd : FuncData} {N ps : List Str} {M M' : Mach} {d : Dfn} (F : FunD K x qual params body scope dvs kws f fd) (Sc : FnScope N ps scope)
    (hM : ∀ xs S, M.cal q xs S = calD M' d xs S) (hnp : d.np = ps.length) (hnn : d.nn = N.length)
    (hbody : ∀ (cdv : Value) (A : Around) (outer : List Env) (s : Shared) (H : Hp) (E : XK), Room k (A.deeper (envOfC qual scope s.heap.objs.size f cdv)) → A.guards = some [] → PSs (cxOf (L2.CX P w) P w K mg base N qual scope f cdv A outer s H E) body (tCs G M' (fun cls d _ H' => E cls d H') d.body)) :
    FnG P w K mg base (k + 1) f fd ps (spI G M d.np q) := by
  obtain ⟨oc, od, dV, kV, doc, pm, an, cdv, ct, osl, rfl, lk, hcd, _, _⟩ := F.ex
  refine ⟨fun vs H Q E h => h.1.trans hnp, fun A outer s H args us vs Q E hr hgd e0 hb r hsp => ?_⟩
  obtain ⟨hl1, ρ, S, xs, sim, hxs, hp⟩ := hsp
  rw [hM] at hp
  have pl : vs.length = ps.length := hl1.trans hnp
  have topIn : K.In s.heap := e0.mod.kin.keeps fun b o e => (e0.bs b o e).1
  have noLim : s.heap.NoLimit := e0.mod.nolimit.keeps fun b o e => (e0.bs b o e).1
  refine codeAny_call_function hr.depth (topIn _ _ lk) rfl Sc.co Sc.gen rfl (PySem.W.codeRec_of topIn hcd) (hb _ _ _ _ (wpAny_newFunctionEnv_cells Sc.kind (fun ⟨n, v⟩ hy => (Sc.par n (List.of_mem_zip hy).1).imp id fun z => ⟨z, PySem.W.cellsFrom_some _ _ _ (.inl z)⟩) fun env he s1 x => ?_))
  subst he
  refine ⟨noLim.keeps x.toInCall.keep, codeAny_func ?_⟩
  have start0 : Inv (cxOf (L2.CX P w) P w K mg base N qual scope f cdv A outer s H E) [] (L2.start N vs) H s1 := inv_start Sc hr.hd e0 pl r x
  have run0 := (hbody cdv A outer s H E (hr.deeper _) hgd).run [] s1 (L2.start N vs) H { nx := fun _ H' => Q .non H', rt := Q } start0 ⟨ρ, _, S, sim, start_ER hnn hxs, fin_PQ sim (hxs.length.trans hl1) hp⟩
  refine wpAny_mono run0 (fun fl s' hs => ?_) fun _ _ z => z
  cases fl with
  | ret u => obtain ⟨v, σ', H', J, rv, z⟩ := hs; exact ⟨v, H', J.os, J.bare, J.base, J.hok, rv, z⟩
  | next => obtain ⟨σ', H', J, z⟩ := hs; exact ⟨.non, H', J.os, J.bare, J.base, J.hok, rfl, z⟩
  | brk => obtain ⟨_, _, _, z⟩ := hs; exact z.elim
  | cont => obtain ⟨_, _, _, z⟩ := hs; exact z.elim
end
end Oz
set_option Elab.async false
set_option linter.all false
set_option maxRecDepth 100000
set_option maxHeartbeats 4000000
set_option autoImplicit false
/-! Oz: sorted of pairs whose first things are texts. -/
namespace Oz
open PySem L2 PyProof.Rows PySem.Spec

/-! ### by a key -/
section
variable {α β : Type}
def insBy (f : α → Str) (x : α) : List α → List α
  | [] => [x]
  | y :: ys => if strLt (f y) (f x) then y :: insBy f x ys else x :: y :: ys
def sortBy (f : α → Str) : List α → List α
  | [] => []
  | x :: xs => insBy f x (sortBy f xs)
theorem insBy_perm (f : α → Str) (x : α) : ∀ ys : List α, (insBy f x ys).Perm (x :: ys)
  | [] => .refl _
  | y :: ys => by
    unfold insBy
    split
    · exact ((insBy_perm f x ys).cons y).trans (.swap x y ys)
    · exact .refl _
theorem sortBy_perm (f : α → Str) : ∀ xs : List α, (sortBy f xs).Perm xs
  | [] => .refl _
  | x :: xs => (insBy_perm f x _).trans ((sortBy_perm f xs).cons x)
theorem insBy_map (f : α → Str) (g : α → β) (k : β → Str) (h : ∀ x, k (g x) = f x) (x : α) : ∀ ys : List α, insBy k (g x) (ys.map g) = (insBy f x ys).map g
  | [] => rfl
  | y :: ys => by
    simp only [List.map_cons, insBy, h]
    split
    · rw [List.map_cons, insBy_map f g k h x ys]
    · rfl
theorem sortBy_map (f : α → Str) (g : α → β) (k : β → Str) (h : ∀ x, k (g x) = f x) : ∀ xs : List α, sortBy k (xs.map g) = (sortBy f xs).map g
  | [] => rfl
  | x :: xs => by
    simp only [List.map_cons, sortBy]
    rw [sortBy_map f g k h xs, insBy_map f g k h x]
theorem insStr_by (x : Str) : ∀ ys : List Str, insStr x ys = insBy id x ys
  | [] => rfl
  | y :: ys => by simp only [insStr, insBy, id, insStr_by x ys]
theorem sortStr_by : ∀ xs : List Str, sortStr xs = sortBy id xs
  | [] => rfl
  | x :: xs => by simp only [sortStr, sortBy, sortStr_by xs, insStr_by]
theorem insP_by (x : Str × Vl) : ∀ ys : List (Str × Vl), insP x ys = insBy (·.1) x ys
  | [] => rfl
  | y :: ys => by simp only [insP, insBy, insP_by x ys]
theorem sortP_by : ∀ xs : List (Str × Vl), sortP xs = sortBy (·.1) xs
  | [] => rfl
  | x :: xs => by simp only [sortP, sortBy, sortP_by xs, insP_by]
theorem sortBy_keys (f : α → Str) (xs : List α) : (sortBy f xs).map f = sortStr (xs.map f) := by
  rw [sortStr_by, sortBy_map f f id (fun _ => rfl)]
theorem sortBy_pw (f : α → Str) (xs : List α) : (sortBy f xs).Pairwise fun x y => leS (f x) (f y) := by
  have h := sort_pw (xs.map f)
  rw [← sortBy_keys] at h
  exact List.pairwise_map.mp h
theorem mem_key {f : α → Str} : ∀ {l : List α}, (l.map f).Nodup → ∀ x ∈ l, ∀ y ∈ l, f x = f y → x = y
  | [], _, x, hx, _, _, _ => by cases hx
  | a :: l, h, x, hx, y, hy, e => by
    simp only [List.map_cons, List.nodup_cons] at h
    rcases List.mem_cons.mp hx with hx' | hx' <;> rcases List.mem_cons.mp hy with hy' | hy'
    · rw [hx', hy']
    · subst hx'; exact absurd (List.mem_map.mpr ⟨y, hy', e.symm⟩) h.1
    · subst hy'; exact absurd (List.mem_map.mpr ⟨x, hx', e⟩) h.1
    · exact mem_key h.2 x hx' y hy' e
theorem sortBy_uniq {f : α → Str} {xs ys : List α} (nd : (xs.map f).Nodup) (p : ys.Perm xs) (h : ys.Pairwise fun x y => leS (f x) (f y)) : ys = sortBy f xs :=
  List.Perm.eq_of_pairwise (le := fun x y => leS (f x) (f y)) (fun x y hx hy h1 h2 => mem_key nd x (p.mem_iff.mp hx) y ((sortBy_perm f xs).mem_iff.mp hy) (leS_anti h1 h2)) h (sortBy_pw f xs) (p.trans (sortBy_perm f xs).symm)
end
/-! ### ranks -/
def rkS (l : List Str) (z : Str) : Int := ((sortStr l).idxOf z : Nat)
theorem rk_lt {l : List Str} (nd : l.Nodup) {x y : Str} (hx : x ∈ l) (hy : y ∈ l) : decide (x.cps.toList < y.cps.toList) = decide (rkS l x < rkS l y) := by
  have p := sort_perm l
  have pw := sort_pw l
  have nd' : (sortStr l).Nodup := p.nodup_iff.mpr nd
  have hx' := p.mem_iff.mpr hx
  have hy' := p.mem_iff.mpr hy
  have key : ∀ a b, a ∈ sortStr l → b ∈ sortStr l → (sortStr l).idxOf a < (sortStr l).idxOf b → a.cps.toList < b.cps.toList := fun a b ha hb h => by
    have la := List.idxOf_lt_length_of_mem ha
    have lb := List.idxOf_lt_length_of_mem hb
    have q := List.pairwise_iff_getElem.mp pw _ _ la lb h
    rw [List.getElem_idxOf la, List.getElem_idxOf lb] at q
    rcases leS_total b a with r | r
    · have e := leS_anti q r
      subst e; omega
    · by_cases c : a.cps.toList < b.cps.toList
      · exact c
      · have e := leS_anti q (leS_iff.mpr c)
        subst e; omega
  refine decide_eq_decide.mpr ⟨fun h => ?_, fun h => ?_⟩
  · unfold rkS
    rcases Nat.lt_trichotomy ((sortStr l).idxOf x) ((sortStr l).idxOf y) with c | c | c
    · omega
    · have lx := List.idxOf_lt_length_of_mem hx'
      have ly := List.idxOf_lt_length_of_mem hy'
      have e : x = y := by
        rw [← List.getElem_idxOf lx, ← List.getElem_idxOf ly]
        simp only [c]
      subst e
      exact absurd h (List.lt_irrefl _)
    · exact absurd (key y x hy' hx' c) (List.not_lt.mpr (List.le_of_lt h))
  · refine key x y hx' hy' ?_
    unfold rkS at h
    omega
/-! ### pairs on the heap -/
def PrIn (h : Heap) (v : Value) (y : Str) : Prop := ∃ (a : Addr) (o : Obj) (n : Nat) (t : Tok) (b : Value), v = .ref a ∧ h.get? a = some o ∧ o.cls = .type "tuple" ∧ o.data = .seq #[.str y t, b] n
def txAt (h : Heap) (v : Value) : Str := match v with
  | .ref a => match h.get? a with
    | some o => match o.data with
      | .seq xs _ => match xs[0]? with
        | some (Value.str y _) => y
        | _ => Str.empty
      | _ => Str.empty
    | none => Str.empty
  | _ => Str.empty
theorem PrIn.tx {h : Heap} {v : Value} {y : Str} (x : PrIn h v y) : txAt h v = y := by
  obtain ⟨a, o, n, t, b, rfl, ho, hc, hd⟩ := x
  simp only [txAt, ho, hd]
  rfl
theorem PrIn.keeps {h h' : Heap} {v : Value} {y : Str} (x : PrIn h v y) (k : ∀ b o, h.get? b = some o → o.cls = .type "tuple" → h'.get? b = some o) : PrIn h' v y := by
  obtain ⟨a, o, n, t, b, e, ho, hc, hd⟩ := x
  exact ⟨a, o, n, t, b, e, k _ _ ho hc, hc, hd⟩
section
variable {prog : Program} {w : World} {A : Around} {E : Value → Shared → Prop} {s : Shared}
theorem firsts_pr {h : Heap} : ∀ vs : List Value, (∀ v ∈ vs, ∃ y, PrIn h v y) → ∃ fs : List Value, PySem.W.KatTups h vs fs ∧ fs.length = vs.length ∧ ∀ f ∈ fs, ∃ y t, f = Value.str y t
  | [], _ => ⟨[], PySem.W.KatTups.nil, rfl, fun f hf => by simp at hf⟩
  | v :: vs, x => by
    obtain ⟨fs, k, hl, hi⟩ := firsts_pr vs fun u hu => x u (List.mem_cons_of_mem _ hu)
    obtain ⟨y, a, o, n, t, b, rfl, ho, hc, hd⟩ := x v (List.mem_cons_self ..)
    refine ⟨.str y t :: fs, PySem.W.KatTups.cons ho hc hd rfl k, by rw [List.length_cons, List.length_cons, hl], fun f hf => ?_⟩
    rcases List.mem_cons.mp hf with rfl | hf
    · exact ⟨y, t, rfl⟩
    · exact hi f hf
theorem kind_pr {vs : List Value} {ρ : Str → Int} (h2 : 2 ≤ vs.length) (x : ∀ v ∈ vs, ∃ y, PrIn s.heap v y) (hinj : ∀ v ∈ vs, ∀ u ∈ vs, txAt s.heap v = txAt s.heap u → v = u)
    (hρ : ∀ v ∈ vs, ∀ u ∈ vs, decide ((txAt s.heap v).cps.toList < (txAt s.heap u).cps.toList) = decide (ρ (txAt s.heap v) < ρ (txAt s.heap u))) (Q : SortKind → Shared → Prop)
    (h : ∀ κ, TS.Cmp prog w A s κ (pairsOf vs) (fun v => ρ (txAt s.heap v)) → Q κ s) : wpAny (model prog w) A (keyKind' vs.toArray) Q E s := by
  obtain ⟨fs, k, hl, hi⟩ := firsts_pr vs x
  refine PySem.W.kat_kind (T := Value.type "str") k (by omega) (fun f hf => ?_) rfl (h _ ?_)
  · obtain ⟨y, t, rfl⟩ := hi f hf
    exact PySem.W.Looks.of_pure rfl
  · intro p q hp hq Q' E' hQ
    rw [pairsOf_toList] at hp hq
    have mp := (PyProof.Rows.mem_zip_self hp).2
    have mq := (PyProof.Rows.mem_zip_self hq).2
    obtain ⟨y, py⟩ := x _ mp
    obtain ⟨z, pz⟩ := x _ mq
    have hr := hρ _ mp _ mq
    have hi := hinj _ mp _ mq
    have hQ' : Q' (decide (y.cps.toList < z.cps.toList)) s := by
      rw [py.tx, pz.tx] at hr
      rw [hr]
      have hQ2 : Q' (decide (ρ (txAt s.heap p.1) < ρ (txAt s.heap q.1))) s := hQ
      rw [py.tx, pz.tx] at hQ2
      exact hQ2
    rw [py.tx, pz.tx] at hi
    obtain ⟨a, o, n, t, b, e1, ho, hc, hd⟩ := py
    obtain ⟨a', o', n', t', b', e2, ho', hc', hd'⟩ := pz
    rw [e1, e2] at hi
    rw [e1, e2]
    refine PySem.W.kat_lt ho hd ho' hd' ?_
    show PySem.W.KatLex prog w A _ false Q' [(Value.str y t, Value.str z t'), (b, b')] 0 s
    by_cases e : y = z
    · have e3 : a = a' := by
        have := hi e
        injection this
      subst e3
      have e4 : o = o' := by rw [ho] at ho'; exact Option.some.inj ho'
      subst e4
      rw [hd] at hd'
      injection hd' with h5 _
      have e6 : b = b' := by
        have := congrArg (fun a => a[1]?) h5
        simpa using this
      subst e e6
      have irr : decide (y.cps.toList < y.cps.toList) = false := decide_eq_false (List.lt_irrefl _)
      rw [irr] at hQ'
      refine PySem.W.kat_cons (wpAny_eqBool_str ?_)
      rw [decide_eq_true rfl]
      refine PySem.W.kat_yes (PySem.W.kat_cons (SeqAt.EqAt.same b prog w _ _ ?_))
      exact PySem.W.kat_yes (PySem.W.kat_nil hQ')
    · refine PySem.W.kat_cons (wpAny_eqBool_str ?_)
      rw [decide_eq_false e]
      exact PySem.W.kat_no (PyProof.Rows.oneLt_any_str hQ')
theorem collect_seq {l : Addr} {vs : List Value} {Q : List Value → Shared → Prop} (hl : s.heap.IsList l vs.toArray ∨ IsTup s.heap l vs.toArray)
    (h : Q vs { s with heap := (s.heap.push (seqObj "list" #[] 0)).update s.heap.objs.size (Obj.mapSeq (· ++ vs.toArray)) }) (hsz : vs.length ≤ sizeLine) :
    wpAny (model prog w) A (collect (.ref l)) Q E s := by
  rcases hl with hl | hl
  · exact collect_list hl h hsz
  obtain ⟨o, ho, hc, n, hd⟩ := id hl
  unfold collect
  refine wpAny_bind (wpAny_runValue (codeAny_builtin entry_proto_collect' ?_))
  show wpAny _ _ (do again (.builtin "list.__iadd__" ⟨[← newList [], .ref l], []⟩)) _ _ s
  refine wpAny_bind (wpAny_newList (wpAny_pure ⟨Code.quiet_builtin _ (by decide +kernel), codeAny_builtin entry_list_iadd' ?_⟩))
  show wpAny _ _ (Builtin.List.listExtendWith (.ref s.heap.objs.size) (.ref l) (.ref s.heap.objs.size)) _ _ { s with heap := s.heap.push (seqObj "list" #[] 0) }
  unfold Builtin.List.listExtendWith
  have ho' : (s.heap.push (seqObj "list" #[] 0)).get? l = some o := Heap.get?_push_of_some _ ho
  refine wpAny_bind (wpAny_typeOf (T := "tuple") ⟨o, ho', hc⟩ ?_)
  have ht : (Value.type "tuple" == Value.type "tuple") = true := by rfl
  rw [if_pos (by rw [ht]; simp)]
  refine wpAny_bind (listItems_at ho' hd ?_)
  refine wpAny_bind (listItems_at (xs := #[]) (n := 0) (Heap.get?_push_size _ rfl) rfl ?_)
  rw [if_neg (by simp)]
  refine wpAny_bind (listUpdate_at (xs := #[]) (n := 0) (Heap.get?_push_size _ rfl) rfl ?_ (Nat.zero_le _) (by show (#[] ++ vs.toArray).size ≤ sizeLine + 1; simp only [Array.size_append, List.size_toArray, List.length_nil]; omega))
  refine wpAny_pure ?_
  show wpAny (model prog w) A (do
      let o ← load s.heap.objs.size
      match o.data with
      | .seq xs _ => pure xs.toList
      | _ => unsupported "internal:collect") Q E { s with heap := (s.heap.push (seqObj "list" #[] 0)).update s.heap.objs.size (Obj.mapSeq (· ++ vs.toArray)) }
  refine wpAny_bind (wpAny_load (get?_update_seq (Heap.get?_push_size _ rfl) _) ?_)
  show wpAny _ _ (pure ((#[] : Array Value) ++ vs.toArray).toList) Q E _
  rw [show ((#[] : Array Value) ++ vs.toArray).toList = vs by simp]
  exact wpAny_pure h
theorem txAt_keeps {h h' : Heap} {v : Value} {y : Str} (x : PrIn h v y) (k : ∀ b o, h.get? b = some o → o.cls = .type "tuple" → h'.get? b = some o) : txAt h' v = txAt h v := by rw [x.tx, (x.keeps k).tx]
theorem sort_pr {a : Addr} {vs : List Value} {n : Nat} {P : PySem.Fin → Shared → Prop} (ρ : Str → Int) (ho : s.heap.get? a = some (seqObj "list" vs.toArray n)) (h64 : vs.length < 64) (x : ∀ v ∈ vs, ∃ y, PrIn s.heap v y) (hinj : ∀ v ∈ vs, ∀ u ∈ vs, txAt s.heap v = txAt s.heap u → v = u)
    (hρ : ∀ v ∈ vs, ∀ u ∈ vs, decide ((txAt s.heap v).cps.toList < (txAt s.heap u).cps.toList) = decide (ρ (txAt s.heap v) < ρ (txAt s.heap u)))
    (h : ∀ out : Array Value, out.toList.Perm vs → out.toList.Pairwise (fun u v => ρ (txAt s.heap u) ≤ ρ (txAt s.heap v)) → P (.done (.ret .none)) { s with heap := sortedHeap s.heap a vs out }) :
    wpAny (model prog w) A (Builtin.«list.sort» ⟨[.ref a], []⟩) P E s := by
  have keep : ∀ b o, s.heap.get? b = some o → o.cls = .type "tuple" → (TS.midHeap s.heap a vs).get? b = some o := fun b o e hc => by
    refine TS.midHeap_old ?_ e
    rintro rfl
    rw [ho] at e
    have e' : seqObj "list" vs.toArray n = o := Option.some.inj e
    rw [← e'] at hc
    have c' : Value.type "list" = Value.type "tuple" := hc
    injection c' with c''
    exact absurd c'' (by decide)
  have tk : ∀ v ∈ vs, txAt (TS.midHeap s.heap a vs) v = txAt s.heap v := fun v hv => by
    obtain ⟨y, py⟩ := x v hv
    exact txAt_keeps py keep
  refine SK.plain_sort (r := fun v => ρ (txAt s.heap v)) ho h64 (fun h2 Q hQ => ?_) fun ps out h1 h2 h3 => ?_
  · refine kind_pr (s := { s with heap := TS.midHeap s.heap a vs }) (ρ := ρ) h2 (fun v hv => let ⟨y, py⟩ := x v hv; ⟨y, py.keeps keep⟩) (fun v hv u hu e => hinj v hv u hu (by rw [← tk v hv, ← tk u hu]; exact e)) (fun v hv u hu => by
      show decide ((txAt (TS.midHeap s.heap a vs) v).cps.toList < (txAt (TS.midHeap s.heap a vs) u).cps.toList) = decide (ρ (txAt (TS.midHeap s.heap a vs) v) < ρ (txAt (TS.midHeap s.heap a vs) u))
      rw [tk v hv, tk u hu]; exact hρ v hv u hu) Q (fun κ hκ => hQ κ ?_)
    intro p q hp hq Q' E' hq'
    refine hκ p q hp hq Q' E' ?_
    rw [pairsOf_toList] at hp hq
    have e1 := tk _ (PyProof.Rows.mem_zip_self hp).2
    have e2 := tk _ (PyProof.Rows.mem_zip_self hq).2
    show Q' (decide (ρ (txAt (TS.midHeap s.heap a vs) p.1) < ρ (txAt (TS.midHeap s.heap a vs) q.1))) _
    rw [e1, e2]
    exact hq'
  · obtain ⟨p, o⟩ := TS.out_rank (r := fun v => ρ (txAt s.heap v)) h1 h2 h3
    exact h out p o
theorem sorted_pr {l : Addr} {vs : List Value} {Q : Value → Shared → Prop} (ρ : Str → Int) (hl : s.heap.IsList l vs.toArray ∨ IsTup s.heap l vs.toArray) (h64 : vs.length < 64) (x : ∀ v ∈ vs, ∃ y, PrIn s.heap v y) (hinj : ∀ v ∈ vs, ∀ u ∈ vs, txAt s.heap v = txAt s.heap u → v = u)
    (hρ : ∀ v ∈ vs, ∀ u ∈ vs, decide ((txAt s.heap v).cps.toList < (txAt s.heap u).cps.toList) = decide (ρ (txAt s.heap v) < ρ (txAt s.heap u)))
    (h : ∀ out : Array Value, out.toList.Perm vs → out.toList.Pairwise (fun u v => ρ (txAt s.heap u) ≤ ρ (txAt s.heap v)) → Q (.ref (s.heap.objs.size + 1)) { s with heap := sortedAll s.heap vs out }) :
    wpAny (model prog w) A (call (.builtin "sorted") [.ref l]) Q E s := by
  refine Calls.call_function_entry kind_sorted plain_sorted entry_sorted (args_sorted1 _) ?_
  unfold Builtin.«sorted»
  refine wpAny_bind (m := checkCount "sorted" 1 1 _) (wpAny_pure ?_)
  refine wpAny_bind (collect_seq hl ?_ (by rw [sizeLine_eq]; omega))
  refine wpAny_bind (wpAny_newList ?_ (by rw [sizeLine_eq]; omega))
  have hsz : ((s.heap.push (seqObj "list" #[] 0)).update s.heap.objs.size (Obj.mapSeq (· ++ vs.toArray))).objs.size = s.heap.objs.size + 1 := by
    rw [Heap.size_update, size_push']
  have hoL : (((s.heap.push (seqObj "list" #[] 0)).update s.heap.objs.size (Obj.mapSeq (· ++ vs.toArray))).push (seqObj "list" vs.toArray 0)).get? (s.heap.objs.size + 1) = some (seqObj "list" vs.toArray 0) := by
    rw [← hsz]; exact Heap.get?_push_size _ rfl
  have keep : ∀ b o, s.heap.get? b = some o → o.cls = .type "tuple" → (((s.heap.push (seqObj "list" #[] 0)).update s.heap.objs.size (Obj.mapSeq (· ++ vs.toArray))).push (seqObj "list" vs.toArray 0)).get? b = some o := fun b o q _ => by
    have hlt : b < s.heap.objs.size := Heap.lt_size q
    rw [Heap.get?_push_ne _ _ _ (by rw [hsz]; exact Nat.ne_of_lt (Nat.lt_succ_of_lt hlt)), Heap.get?_update_ne _ _ _ _ (Nat.ne_of_lt hlt), Heap.get?_push_ne _ _ _ (Nat.ne_of_lt hlt)]
    exact q
  have tk := fun v hv => let ⟨y, py⟩ := x v hv; txAt_keeps py keep
  show wpAny _ _ _ _ _ { s with heap := ((s.heap.push (seqObj "list" #[] 0)).update s.heap.objs.size (Obj.mapSeq (· ++ vs.toArray))).push (seqObj "list" vs.toArray 0) }
  rw [hsz]
  refine wpAny_bind (wpAny_holding (wpAny_call_entry slot_list_sort ⟨_, hoL, rfl⟩ entry_list_sort (sort_pr ρ hoL h64 (fun v hv => let ⟨y, py⟩ := x v hv; ⟨y, py.keeps keep⟩) (fun v hv u hu e => hinj v hv u hu (by rw [← tk v hv, ← tk u hu]; exact e)) (fun v hv u hu => ?_) fun out a1 a2 => ⟨_, rfl, ?_⟩) (args_list_sort _)))
  · show decide ((txAt (((s.heap.push (seqObj "list" #[] 0)).update s.heap.objs.size (Obj.mapSeq (· ++ vs.toArray))).push (seqObj "list" vs.toArray 0)) v).cps.toList < (txAt (((s.heap.push (seqObj "list" #[] 0)).update s.heap.objs.size (Obj.mapSeq (· ++ vs.toArray))).push (seqObj "list" vs.toArray 0)) u).cps.toList) = decide (ρ (txAt (((s.heap.push (seqObj "list" #[] 0)).update s.heap.objs.size (Obj.mapSeq (· ++ vs.toArray))).push (seqObj "list" vs.toArray 0)) v) < ρ (txAt (((s.heap.push (seqObj "list" #[] 0)).update s.heap.objs.size (Obj.mapSeq (· ++ vs.toArray))).push (seqObj "list" vs.toArray 0)) u))
    rw [tk v hv, tk u hu]; exact hρ v hv u hu
  · refine wpAny_pure ⟨_, rfl, h out a1 ?_⟩
    refine List.Pairwise.imp_of_mem (fun {u v} hu hv q => ?_) a2
    have q' : ρ (txAt (((s.heap.push (seqObj "list" #[] 0)).update s.heap.objs.size (Obj.mapSeq (· ++ vs.toArray))).push (seqObj "list" vs.toArray 0)) u) ≤ ρ (txAt (((s.heap.push (seqObj "list" #[] 0)).update s.heap.objs.size (Obj.mapSeq (· ++ vs.toArray))).push (seqObj "list" vs.toArray 0)) v) := q
    rw [tk u (a1.mem_iff.mp hu), tk v (a1.mem_iff.mp hv)] at q'
    exact q'
end
end Oz
set_option Elab.async false
set_option linter.all false
set_option maxRecDepth 100000
set_option maxHeartbeats 4000000
/-! Oz: levels of machines, rules in short, the end of a law. -/
namespace Oz
open PySem L2 PyProof.Rows

/-! ### machines by levels -/
noncomputable def mach (kd : Str → Option (List (Str × Vl))) (ds : Str → Option Dfn) (fu : Nat) : Nat → Mach
  | 0 => ⟨fun _ _ _ => .bad, kd, fu⟩
  | n + 1 => ⟨fun q xs S => match ds q with
    | some d => calD (mach kd ds fu n) d xs S
    | none => .bad, kd, fu⟩
theorem mach_cal {kd : Str → Option (List (Str × Vl))} {ds : Str → Option Dfn} {fu n : Nat} {q : Str} {d : Dfn} (h : ds q = some d) (xs : List Vl) (S : Hs) : (mach kd ds fu (n + 1)).cal q xs S = calD (mach kd ds fu n) d xs S := by
  simp only [mach, h]
theorem mach_kd {kd : Str → Option (List (Str × Vl))} {ds : Str → Option Dfn} {fu n : Nat} : (mach kd ds fu n).kd = kd := by cases n <;> rfl
theorem mach_fuel {kd : Str → Option (List (Str × Vl))} {ds : Str → Option Dfn} {fu n : Nat} : (mach kd ds fu n).fuel = fu := by cases n <;> rfl
theorem Good.le {G : Glb} {j k : Nat} {X : Cx} (g : Good G k X) (h : j ≤ k) : Good G j X := ⟨g.K, g.nd, g.calm, g.room.mono h, g.grd⟩
theorem takesF {X : Cx} : Takes X WF := fun u s' ⟨_, _, _, _, _, _, _, _, _, _, _, _, _, _, _, _, w⟩ => w.elim
theorem Es.app_nil : ∀ es : Es, es.app [] = es
  | .nil => by simp only [Es.app]
  | .cons e es => by simp only [Es.app, Es.app_nil es]

section
variable {P : Program} {w : World} {K : PySem.W.Frag} {mg : Str → Option Value} {base : Heap} {G : Glb} {M : Mach} {W : WX} {X : Cx} {k n : Nat} {x q c m : Str} {a b e : Expr} {es : List Expr} {ca cb : E} {ces cs kes : Es} {p pos apos : Pos} {dxs : List Vl} {ks : List Str} {kws : List Keyword}
/-! ### what may be called -/
structure Cal (P : Program) (w : World) (K : PySem.W.Frag) (mg : Str → Option Value) (base : Heap) (G : Glb) (M : Mach) (k : Nat) (x q : Str) (n : Nat) : Prop where
  ex : ∃ (f : Addr) (fd : FuncData) (ps : List Str), FnG P w K mg base k f fd ps (spI G M n q) ∧ mg x = some (.ref f) ∧ PySem.W.keepIn K (.ref f) = true ∧ Binds K fd ps []
structure Met (P : Program) (w : World) (K : PySem.W.Frag) (mg : Str → Option Value) (base : Heap) (G : Glb) (M : Mach) (k : Nat) (c m : Str) (n : Nat) : Prop where
  ex : ∃ (f : Addr) (fd : FuncData) (ps : List Str), FnG P w K mg base k f fd ps (spI G M n (dot c m)) ∧ Cls K (G.cl c) ∧ Meth K (G.cl c) m f ∧ Binds K fd ps []
structure Mak (P : Program) (w : World) (K : PySem.W.Frag) (mg : Str → Option Value) (base : Heap) (G : Glb) (M : Mach) (k : Nat) (x c : Str) (n : Nat) (ks : List Str) (dxs : List Vl) : Prop where
  ex : ∃ (f : Addr) (fd : FuncData) (ps : List Str) (mv : List Value) (dvs : List V), FnG P w K mg base k f fd ps (spI G M (n + 1 + ks.length + dxs.length) (dot c "__init__")) ∧ Mk K (G.cl c) f ∧ mg x = some (.ref (G.cl c)) ∧ KBn K fd ps (n + 1) ks (fun us ws => us ++ ws ++ mv) (fun vs zs => vs ++ zs ++ dvs) ∧ Csts G dxs dvs
structure EqM (P : Program) (w : World) (K : PySem.W.Frag) (mg : Str → Option Value) (base : Heap) (G : Glb) (M : Mach) (k : Nat) (c : Str) : Prop where
  ex : ∃ (f : Addr) (fd : FuncData) (ps : List Str), FnG P w K mg base k f fd ps (spI G M 2 (dot c "__eq__")) ∧ EqC K (G.cl c) f ∧ Binds K fd ps []
structure LnM (P : Program) (w : World) (K : PySem.W.Frag) (mg : Str → Option Value) (base : Heap) (G : Glb) (M : Mach) (k : Nat) (c : Str) : Prop where
  ex : ∃ (f : Addr) (fd : FuncData) (ps : List Str), FnG P w K mg base k f fd ps (spI G M 1 (dot c "__len__")) ∧ PySem.W.findIn K (.ref (G.cl c)) "__len__" = some (some (.ref f)) ∧ PySem.W.isFn K (.ref f) = true ∧ Binds K fd ps []

/-! ### rules in short -/
theorem xv (i : Nat) (hN : X.N[i]? = some x := by rfl) (hv : Vis X.env.scope x := by first | exact Or.inl rfl | exact Or.inr (Or.inl rfl) | exact Or.inr (Or.inr rfl)) (hd : (x == ("__debug__" : Str)) = false := by decide) (hcd : (x == ("__classdict__" : Str)) = false := by decide) : PE X (.Name x pos) (tE G M W (.var i)) := pe_vari hN hv hd hcd
theorem xint {i : Int} {j : Nat} : PE X (.Constant (.int i) j pos) (tE G M W (.cst (.int i))) := pe_csti pe_int fun _ _ => by simp only [VR]
theorem xstr {z : Str} {j : Nat} : PE X (.Constant (.str z) j pos) (tE G M W (.cst (.str z))) := pe_csti pe_str fun _ _ => by simp only [VR]
theorem xbool {z : Bool} {j : Nat} : PE X (.Constant (.bool z) j pos) (tE G M W (.cst (.bl z))) := pe_csti pe_bl fun _ _ => by simp only [VR]
theorem xnon {j : Nat} : PE X (.Constant .none j pos) (tE G M W (.cst .non)) := pe_csti pe_non fun _ _ => by simp only [VR]
theorem xgl {u : Value} {v : V} {z : Vl} (hm : X.mg x = some u) (r : RelV v u) (hz : ∀ ρ H, VR G ρ H z v) (hg : Gl X x := by rfl) (hd : (x == ("__debug__" : Str)) = false := by decide) : PE X (.Name x pos) (tE G M W (.cst z)) := pe_csti (pe_glob hg hm r hd) hz
theorem xone {op : BoolOp} (h : PE X a (tE G M W ca)) : PE X (.BoolOp op [a] pos) (tE G M W ca) := pe_one h
theorem gn (g : Good G k X) (i : Nat) (hi : X.N[i]? = some x := by rfl) (hx : Loc X.env.scope x := by first | exact Or.inl rfl | exact Or.inr rfl) (hf : X.fn x = true ∨ X.env.scope.names.lookup x = some .local := by first | exact .inl rfl | exact .inr rfl | assumption) : PG X (.Name x pos) (tG G (.nm i)) := pg_nm g i hi hx hf
theorem pa1 (ha : PE X a (tE G M W ca)) (hs : starEach [a] X.env = (false, eval a X.env) :: starEach [] X.env := by rfl) : PA X [a] (tA G M W (.cons ca .nil)) := pa_consi ha pa_nili hs
theorem pac (ha : PE X a (tE G M W ca)) (hr : PA X es (tA G M W ces)) (hs : starEach (a :: es) X.env = (false, eval a X.env) :: starEach es X.env := by rfl) : PA X (a :: es) (tA G M W (.cons ca ces)) := pa_consi ha hr hs
/-- calls of own defs -/
theorem cv (g : Good G (k + 1) X) (c : Cal X.prog X.w X.K X.mg X.base G M k x q n) (tk : Takes X W) (ha : PA X (e :: es) (tA G M W ces)) (hn : ces.len = n := by rfl) (hg : Gl X x := by rfl) (hdb : (x == ("__debug__" : Str)) = false := by decide) (he : starEach (e :: es) X.env = (false, eval e X.env) :: starEach es X.env := by rfl) (hpl : (backTo pos (starEach es X.env)).any (·.1) = false := by rfl) : PE X (.Call (.Name x p) (e :: es) [] pos) (tE G M W (.call q ces)) := by
  obtain ⟨f, fd, ps, F, hm, hk, hb⟩ := c.ex
  refine (pe_callE g F hg hm hk (dxs := []) (dvs := []) hb .nil (fun _ _ => VRs.nil) tk ha hdb he hpl).imp fun σ H Q h => tCl_val (fun η S xs S1 h => ?_) (by rw [Es.app_nil]; exact h)
  rw [evs_len _ _ _ _ _ h, hn]; rfl
theorem cf (g : Good G (k + 1) X) (c : Cal X.prog X.w X.K X.mg X.base G M k x q n) (tk : Takes X W) (ha : PA X (e :: es) (tA G M W ces)) (hn : ces.len = n := by rfl) (hg : Gl X x := by rfl) (hdb : (x == ("__debug__" : Str)) = false := by decide) (he : starEach (e :: es) X.env = (false, eval e X.env) :: starEach es X.env := by rfl) (hpl : (backTo pos (starEach es X.env)).any (·.1) = false := by rfl) : PE X (.Call (.Name x p) (e :: es) [] pos) (tF G M W (.call q ces)) := by
  obtain ⟨f, fd, ps, F, hm, hk, hb⟩ := c.ex
  refine (pe_callE g F hg hm hk (dxs := []) (dvs := []) hb .nil (fun _ _ => VRs.nil) tk ha hdb he hpl).imp fun σ H Q h => tCl_frs (fun η S xs S1 h => ?_) (by rw [Es.app_nil]; exact h)
  rw [evs_len _ _ _ _ _ h, hn]; rfl
theorem cv0 (g : Good G (k + 1) X) (c : Cal X.prog X.w X.K X.mg X.base G M k x q 0) (tk : Takes X W) (hg : Gl X x := by rfl) (hdb : (x == ("__debug__" : Str)) = false := by decide) : PE X (.Call (.Name x p) [] [] pos) (tE G M W (.call q .nil)) := by
  obtain ⟨f, fd, ps, F, hm, hk, hb⟩ := c.ex
  refine (pe_call0 g F hg hm hk (dxs := []) (dvs := []) hb .nil (fun _ _ => VRs.nil) tk hdb).imp fun σ H Q h => tCl_val (fun η S xs S1 h => ?_) (by rw [Es.app_nil]; exact h)
  rw [evs_len _ _ _ _ _ h]; rfl
theorem cf0 (g : Good G (k + 1) X) (c : Cal X.prog X.w X.K X.mg X.base G M k x q 0) (tk : Takes X W) (hg : Gl X x := by rfl) (hdb : (x == ("__debug__" : Str)) = false := by decide) : PE X (.Call (.Name x p) [] [] pos) (tF G M W (.call q .nil)) := by
  obtain ⟨f, fd, ps, F, hm, hk, hb⟩ := c.ex
  refine (pe_call0 g F hg hm hk (dxs := []) (dvs := []) hb .nil (fun _ _ => VRs.nil) tk hdb).imp fun σ H Q h => tCl_frs (fun η S xs S1 h => ?_) (by rw [Es.app_nil]; exact h)
  rw [evs_len _ _ _ _ _ h]; rfl
/-- methods without arguments -/
theorem mv0 {pl : Sem Bool} (g : Good G (k + 1) X) (cm : Met X.prog X.w X.K X.mg X.base G M k c m 1) (tk : Takes X W) (ha : PE X a (tE G M W ca))
    (ht : eval (.Call (.Attribute a m apos) [] [] pos) X.env = (do
      let ov ← eval a X.env
      standAt apos.atName
      let (f, first) ← holding [ov] (getMethod ov m pl)
      callWith pos f first (backTo pos (starEach [] X.env)) (backToKw pos (keywordEach [] X.env))) := by rfl) : PE X (.Call (.Attribute a m apos) [] [] pos) (tE G M W (.mcl c m ca .nil)) := by
  obtain ⟨f, fd, ps, F, hC, hm, hb⟩ := cm.ex
  exact (pe_mcl0 g F hC hm hb (dxs := []) (dvs := []) .nil (fun _ _ => VRs.nil) tk ha ht).imp fun σ H Q h => tMc_val rfl (by rw [Es.app_nil]; exact h)
theorem mf0 {pl : Sem Bool} (g : Good G (k + 1) X) (cm : Met X.prog X.w X.K X.mg X.base G M k c m 1) (tk : Takes X W) (ha : PE X a (tE G M W ca))
    (ht : eval (.Call (.Attribute a m apos) [] [] pos) X.env = (do
      let ov ← eval a X.env
      standAt apos.atName
      let (f, first) ← holding [ov] (getMethod ov m pl)
      callWith pos f first (backTo pos (starEach [] X.env)) (backToKw pos (keywordEach [] X.env))) := by rfl) : PE X (.Call (.Attribute a m apos) [] [] pos) (tF G M W (.mcl c m ca .nil)) := by
  obtain ⟨f, fd, ps, F, hC, hm, hb⟩ := cm.ex
  exact (pe_mcl0 g F hC hm hb (dxs := []) (dvs := []) .nil (fun _ _ => VRs.nil) tk ha ht).imp fun σ H Q h => tMc_frs rfl (by rw [Es.app_nil]; exact h)
/-- a class called -/
theorem nw (g : Good G (k + 1) X) (cm : Mak X.prog X.w X.K X.mg X.base G M k x c n [] dxs) (tk : Takes X W) (ha : PA X (e :: es) (tA G M W ces)) (hn : ces.len = n := by rfl) (hcs : cs = ces.app dxs := by simp only [Es.app, Es.cat] <;> rfl) (hg : Gl X x := by rfl) (hdb : (x == ("__debug__" : Str)) = false := by decide) (he : starEach (e :: es) X.env = (false, eval e X.env) :: starEach es X.env := by rfl) (hpl : (backTo pos (starEach es X.env)).any (·.1) = false := by rfl) : PE X (.Call (.Name x p) (e :: es) [] pos) (tF G M W (.new c cs)) := by
  obtain ⟨f, fd, ps, mv, dvs, F, mk, hm, hb, hc⟩ := cm.ex
  subst hcs
  exact pf_new g F mk hg hm hb hc tk ha hn hdb he hpl
theorem nwK (g : Good G (k + 1) X) (cm : Mak X.prog X.w X.K X.mg X.base G M k x c n ks dxs) (tk : Takes X W) (ha : PA X (e :: es) (tA G M W ces)) (hkw : PK X kws (tA G M W kes)) (hn : ces.len = n := by rfl) (hk : kes.len = ks.length := by rfl) (hcs : cs = (ces.cat kes).app dxs := by simp only [Es.app, Es.cat] <;> rfl) (hg : Gl X x := by rfl) (hall : (backToKw pos (keywordEach kws X.env)).all (·.1.isSome) = true := by rfl) (hks : (backToKw pos (keywordEach kws X.env)).filterMap (·.1) = ks := by rfl) (hdb : (x == ("__debug__" : Str)) = false := by decide) (he : starEach (e :: es) X.env = (false, eval e X.env) :: starEach es X.env := by rfl)
    (hpl : ((backTo pos (starEach (e :: es) X.env)).any (·.1) || (backToKw pos (keywordEach kws X.env)).any (·.1.isNone)) = false := by rfl) : PE X (.Call (.Name x p) (e :: es) kws pos) (tF G M W (.new c cs)) := by
  obtain ⟨f, fd, ps, mv, dvs, F, mk, hm, hb, hc⟩ := cm.ex
  subst hcs
  exact pf_newK g F mk hg hm hb hc tk ha hkw hn hk hall hks hdb he hpl
theorem ln (g : Good G (k + 1) X) (cm : LnM X.prog X.w X.K X.mg X.base G M k c) (hm : X.mg "len" = none) (ha : PE X a (tE G M W ca)) (hg : Gl X "len" := by rfl) (hs1 : starEach [a] X.env = [(false, eval a X.env)] := by rfl) (he : starEach [a] X.env = (false, eval a X.env) :: starEach [] X.env := by rfl) (hpl : (backTo pos (starEach [] X.env)).any (·.1) = false := by rfl) : PE X (.Call (.Name "len" p) [a] [] pos) (tE G M W (.olen c ca)) := by
  obtain ⟨f, fd, ps, F, hs, hf, hb⟩ := cm.ex
  exact pe_olen g F hs hf hb hg hm ha hs1 he hpl
theorem eqv (g : Good G (k + 3) X) (cm : EqM X.prog X.w X.K X.mg X.base G M k c) (ha : PE X a (tE G M W ca)) (hb2 : PE X b (tE G M W cb)) (hm : behindInMarks .Eq b = false := by exact nomark _) : PE X (.Compare a [.Eq] [b] pos) (tE G M W (.oeq c false ca cb)) := by
  obtain ⟨f, fd, ps, F, ec, hb⟩ := cm.ex
  exact pe_oeqi g F ec hb ha hb2 hm
theorem eqt (g : Good G (k + 3) X) (cm : EqM X.prog X.w X.K X.mg X.base G M k c) (ha : PE X a (tE G M W ca)) (hb2 : PE X b (tE G M W cb)) (hm : behindInMarks .Eq b = false := by exact nomark _) : PT X (.Compare a [.Eq] [b] pos) (tQ G M W (.oeq c false ca cb)) := by
  obtain ⟨f, fd, ps, F, ec, hb⟩ := cm.ex
  exact pt_oeqi g F ec hb ha hb2 hm
theorem nev (g : Good G (k + 3) X) (cm : EqM X.prog X.w X.K X.mg X.base G M k c) (ha : PE X a (tE G M W ca)) (hb2 : PE X b (tE G M W cb)) (hm : behindInMarks .NotEq b = false := by exact nomark _) : PE X (.Compare a [.NotEq] [b] pos) (tE G M W (.oeq c true ca cb)) := by
  obtain ⟨f, fd, ps, F, ec, hb⟩ := cm.ex
  exact pe_onei g F ec hb ha hb2 hm
theorem net (g : Good G (k + 3) X) (cm : EqM X.prog X.w X.K X.mg X.base G M k c) (ha : PE X a (tE G M W ca)) (hb2 : PE X b (tE G M W cb)) (hm : behindInMarks .NotEq b = false := by exact nomark _) : PT X (.Compare a [.NotEq] [b] pos) (tQ G M W (.oeq c true ca cb)) := by
  obtain ⟨f, fd, ps, F, ec, hb⟩ := cm.ex
  exact pt_onei g F ec hb ha hb2 hm
/-- comparisons -/
theorem cpv (g : Good G k X) (op : CmpOp) (ha : PE X a (tE G M W ca)) (hb : PE X b (tE G M W cb)) (hm : behindInMarks op b = false := by first | exact nomark _ | rfl) : PE X (.Compare a [op] [b] pos) (tE G M W (.cmp op ca cb)) := pe_cmpi g op ha hb hm
theorem cpt (g : Good G k X) (op : CmpOp) (ha : PE X a (tE G M W ca)) (hb : PE X b (tE G M W cb)) (hm : behindInMarks op b = false := by first | exact nomark _ | rfl) : PT X (.Compare a [op] [b] pos) (tQ G M W (.cmp op ca cb)) := pt_cmpi g op ha hb hm
theorem ch3v {o1 o2 : CmpOp} {d : Expr} {cd : E} (g : Good G k X) (ha : PE X a (tE G M W ca)) (hb : PE X b (tE G M W cb)) (hd : PE X d (tE G M W cd)) (hm : lastMarks [o1, o2] [b, d] = false := by rfl) : PE X (.Compare a [o1, o2] [b, d] pos) (tE G M W (.chn o1 o2 ca cb cd)) := pe_chni g o1 o2 ha hb hd hm
theorem ch3t {o1 o2 : CmpOp} {d : Expr} {cd : E} (g : Good G k X) (ha : PE X a (tE G M W ca)) (hb : PE X b (tE G M W cb)) (hd : PE X d (tE G M W cd)) (hm : lastMarks [o1, o2] [b, d] = false := by rfl) : PT X (.Compare a [o1, o2] [b, d] pos) (tQ G M W (.chn o1 o2 ca cb cd)) := pt_chni g o1 o2 ha hb hd hm
/-- a bool as a test -/
theorem tv (h : PE X e (tE G M W ca)) (he : ∀ whole, isTrue e X.env whole = (do let v ← whole; standAt e.pos; holding [v] (truthy v)) := by intro _; rfl) : PT X e (tQ G M W ca) := pt_vali h he
theorem ix (g : Good G k X) (ha : PE X a (tE G M W ca)) (hb : PE X b (tE G M W cb)) (hs : PlainIx b := by intro _ _; rfl) : PE X (.Subscript a b pos) (tE G M W (.idx ca cb)) := pe_idxi g ha hb hs
/-- X in a module's table -/
structure Kd (w : World) (K : PySem.W.Frag) (mg : Str → Option Value) (G : Glb) (M : Mach) (x : Str) : Prop where
  ex : ∃ (d : Addr) (kv : List (Str × Vl)), KdOk G w d kv ∧ M.kd x = some kv ∧ mg x = some (.ref d)
theorem kgx (g : Good G k X) (h : Kd X.w X.K X.mg G M x) {p2 : Pos} (ha : PE X a (tE G M W ca)) (hg : Gl X x := by rfl) (hd : (x == ("__debug__" : Str)) = false := by decide) (hs : PlainIx a := by intro _ _; rfl) : PE X (.Subscript (.Name x p2) a pos) (tE G M W (.kget x ca)) := by
  obtain ⟨d, kv, h1, h2, h3⟩ := h.ex
  exact pe_kgeti g h1 h2 (pe_glob hg h3 rfl hd) ha hs
theorem nit (g : Good G k X) (h : Kd X.w X.K X.mg G M x) {p2 : Pos} (ha : PE X a (tE G M W ca)) (hg : Gl X x := by rfl) (hd : (x == ("__debug__" : Str)) = false := by decide) (hm : behindInMarks .NotIn (.Name x p2) = false := by rfl) : PT X (.Compare a [.NotIn] [.Name x p2] pos) (tQ G M W (.kin x true ca)) := by
  obtain ⟨d, kv, hk, hM, h3⟩ := h.ex
  obtain ⟨es, n, D, _⟩ := hk.look ""
  rw [← g.K] at D
  refine (pt_cmpR (op_notIn_kd D) ha (pe_glob (v := .ref d) hg h3 rfl hd) hm).imp fun σ H Q ⟨ρ, η, S, s, r, h⟩ => ⟨ρ, η, S, s, r, (PR.bind h).mono fun ρ1 H1 y S1 st1 s1 h1 v hv => ?_⟩
  rw [hM] at h1
  cases y with
  | str z =>
    simp only [VR] at hv; subst hv
    obtain ⟨d', e', h2⟩ := PR.here h1 s1
    obtain ⟨es', n', D', q⟩ := hk.look z
    rcases q with ⟨e1, e2⟩ | ⟨x', v', u, e1, e2, e3, e4⟩
    · refine ⟨z, none, rfl, rfl, by rw [g.K]; exact e2, _, rfl, ?_⟩
      rw [e1] at e'; cases e'; exact h2
    · refine ⟨z, some u, rfl, rfl, by rw [g.K]; exact e2, _, rfl, ?_⟩
      rw [e1] at e'; cases e'; exact h2
  | _ => exact h1.elim
end
end Oz
set_option Elab.async false
set_option linter.all false
set_option maxRecDepth 100000
set_option maxHeartbeats 4000000
/-! Oz: the end of a law whose own def is told by Oz. -/
namespace Oz
open PySem PySem.Spec PyProof.Rows L2

/-- the law's promise: a script of whole numbers, True -/
def spEnd (K : PySem.W.Frag) (n : Nat) : Sp := fun vs H Q _ => ∃ (a : Addr) (ns : List Int), vs = [.ref a] ∧ SqL K H a (ns.map V.int) ∧ ns.length ≤ n ∧ ∀ H', Q (.bl true) H'
section
variable {P : Program} {w : World} {K : PySem.W.Frag} {mg mb : Str → Option Value} {k n : Nat} {fa a : Addr} {fd : FuncData} {x : Str} {s : Shared} {us : List Value} {ns : List Int}
def Goal (P : Program) (w : World) (fa a : Addr) (s : Shared) : Prop := codeAny (model P w) callerA (.call (.ref fa) ⟨[.ref a], []⟩) (fun r t => r = .ok (.ret (.bool true)) ∧ OldK s.heap t.heap ∧ t.os = s.os ∧ AllBare t.gens) s
/-- a heap in which at most the script is known -/
structure Few (K : PySem.W.Frag) (a : Addr) (H : Hp) : Prop where
  at_ : ∀ b, H b = none ∨ (b = a ∧ K.lookup a = none ∧ ∃ o xs, H b = some (.frz o (.lst xs)))
theorem Few.ne {H : Hp} (f : Few K a H) {b : Addr} (h : b ≠ a) : H b = none := (f.at_ b).elim id fun z => absurd z.1 h
theorem end_few (kin : K.In s.heap) (hN : s.heap.Ns mainGlobals mg) (hB : s.heap.Ns builtinsNs mb) (hbb : ∀ x : Str, x ≠ "__name__" → mb x = bootBuiltins x) (hlim : s.heap.NoLimit) (hgen : s.gens = #[])
    (hobj : s.heap.get? a = some { cls := .type "list", data := .seq us.toArray }) (hr : Room k callerA)
    (F : ∀ base : Heap, K.In base → base.Ns mainGlobals mg → FnG P w K mg base k fa fd [x] (spEnd K n)) (hbind : ∀ (s : Shared) (u : Value), BindsTo s fd ⟨[u], []⟩ [(x, u)])
    {H : Hp} (few : Few K a H) (hS : SqL K H a (ns.map V.int)) (hlen : ns.length ≤ n) (hok : HOk P w H s.heap) : Goal P w fa a s := by
  have notD : ∀ {b : Addr} {o : Obj} {es : Array DictEntry} {ep : Nat}, s.heap.get? b = some o → o.data = .dict es ep → H b = none := fun {b o es ep} e d => few.ne fun hb => by
    rw [hb, hobj] at e
    cases e
    cases d
  have ns2 : ∀ {b : Addr} {m : Str → Option Value}, s.heap.Ns b m → (hidT s.heap H).Ns b m := fun {b m} ⟨o, es, ep, e, d, r⟩ => ⟨o, es, ep, hidT_get e (notD e d), d, r⟩
  have kin2 : K.In (hidT s.heap H) := fun b o e => hidT_get (kin b o e) ((few.at_ b).elim id fun ⟨hb, hk, _⟩ => by
    rw [hb, hk] at e
    cases e)
  have md : Mod K mg (hidT s.heap H) := by
    obtain ⟨mc, l1, l2⟩ := hlim
    exact ⟨kin2, ns2 hN, ⟨mb, ns2 hB, hbb⟩, ⟨mc, ns2 l1, l2⟩⟩
  have ev : Env0 P w K mg (hidT s.heap H) callerA [] s H :=
    { frames := rfl, mod := md, bs := fun b o e => of_hidT e, bsz := Nat.le_of_eq (hidT_size _ _), funs := trivial, frf := fun b hb => absurd (show b ∈ ([] : List Addr) from hb) (by simp), hok := hok, bare := .of_eq hgen }
  have main := (F _ kin2 (ns2 hN)).run callerA [] s H ⟨[.ref a], []⟩ [.ref a] [.ref a] (fun v _ => v = .bl true) (fun _ _ _ => False) hr rfl ev (hbind s (.ref a)) (.cons rfl .nil) ⟨a, ns, rfl, hS, hlen, fun _ => rfl⟩
  refine codeAny_mono main fun r t h => ?_
  match r, h with
  | .error e, ⟨_, _, _, _, _, _, _, _, _, _, _, _, z⟩ => exact z.elim
  | .ok (.ret u), ⟨v, H', os, bare, un, hok', r', q⟩ =>
    cases (show v = .bl true from q)
    cases (show u = Value.bool true from r')
    refine ⟨rfl, OldK.of_keep fun b o e => ?_, os, bare⟩
    have nf : b ∉ frs [] := fun z => absurd (show b ∈ ([] : List Addr) from z) (by simp)
    rcases few.at_ b with z | ⟨_, _, ob, xs, z⟩
    · exact un.keep b o e z nf (by simp)
    · obtain ⟨e1, _⟩ := hok b _ z
      obtain ⟨e2, _⟩ := hok' b _ (un.frzs b ob _ z)
      exact e2.trans (e1.symm.trans e)
theorem end_call (kin : K.In s.heap) (hN : s.heap.Ns mainGlobals mg) (hB : s.heap.Ns builtinsNs mb) (hbb : ∀ x : Str, x ≠ "__name__" → mb x = bootBuiltins x) (hlim : s.heap.NoLimit) (hgen : s.gens = #[])
    (hobj : s.heap.get? a = some { cls := .type "list", data := .seq us.toArray }) (hints : IntsAre us ns) (hn : n ≤ sizeLine) (hlen : ns.length ≤ n) (hr : Room k callerA)
    (F : ∀ base : Heap, K.In base → base.Ns mainGlobals mg → FnG P w K mg base k fa fd [x] (spEnd K n)) (hbind : ∀ (s : Shared) (u : Value), BindsTo s fd ⟨[u], []⟩ [(x, u)]) : Goal P w fa a s := by
  have rel := vals_ints hints
  have small : ns.length ≤ sizeLine := Nat.le_trans hlen hn
  by_cases hk : K.lookup a = none
  · have here : (fun b => if b = a then some (HO.frz { cls := .type "list", data := .seq us.toArray } (.lst (ns.map V.int))) else none : Hp) a = some (.frz { cls := .type "list", data := .seq us.toArray } (.lst (ns.map V.int))) := if_pos rfl
    refine end_few kin hN hB hbb hlim hgen hobj hr F hbind (H := fun b => if b = a then some (.frz { cls := .type "list", data := .seq us.toArray } (.lst (ns.map V.int))) else none) ⟨fun b => ?_⟩ (.inl (.inr ⟨_, here⟩)) hlen fun b u z => ?_
    · by_cases hb : b = a
      · exact .inr ⟨hb, hk, _, _, if_pos hb⟩
      · exact .inl (if_neg hb)
    · by_cases hb : b = a
      · subst hb
        cases here.symm.trans z
        exact ⟨hobj, by rw [List.length_map]; exact small, us, _, rel, hobj⟩
      · cases (if_neg hb).symm.trans z
  · obtain ⟨o, ho⟩ := Option.ne_none_iff_exists'.mp hk
    have eo := (kin a o ho).symm.trans hobj
    cases eo
    exact end_few kin hN hB hbb hlim hgen hobj hr F hbind (H := fun _ => none) ⟨fun _ => .inl rfl⟩ (.inr ⟨_, us.toArray, _, ho, rfl, rfl, rfl, by rw [List.size_toArray, hints.length]; exact small, by simpa using rel⟩) hlen fun b u z => by cases (show (none : Option HO) = some u from z)
end
/-- the goal that k_head leaves, of a def told by Oz -/
theorem end_of {l : PySem.W.OpenLaw} {n k : Nat} {q : Program} {loose : List Str} {XP : (Str → Option Value) → Heap → Prop} {YP : World → Heap → Prop} {d : DefRec} {K : Params → PySem.W.Frag} {x : Str}
    (hn : l.most = some n) (hn2 : n ≤ sizeLine) (hdf : d.params.defaults = []) (hr : Room k callerA) (hY : ∀ (w : World) (h : Heap), YP w h → (K w.params).In h)
    (F : ∀ (w : World) (mg : Str → Option Value) (fa : Addr) (h : Heap), (K w.params).In h → h.Ns mainGlobals mg → mg d.name = some (.ref fa) →
      ∃ fd : FuncData, (∀ (s : Shared) (u : Value), BindsTo s fd ⟨[u], []⟩ [(x, u)]) ∧ ∀ base : Heap, (K w.params).In base → base.Ns mainGlobals mg → FnG l.prog w (K w.params) mg base k fa fd [x] (spEnd (K w.params) n)) :
    PySem.W.WalkO q loose XP YP l.row.toRowW d [] (fun f vs => PySem.call f vs) := by
  refine Att.attach_call hn hdf fun w s0 s1 mg mb fa o pm cd doc a vs ns GG Y ho hd hcd hmg hobj hints hlen hg => ?_
  obtain ⟨fd, hb, hF⟩ := F w mg fa _ (hY w _ Y) GG.T.g hmg
  exact end_call (hY w _ Y) GG.T.g GG.T.b GG.T.builtins GG.T.nolimit hg hobj hints hn2 hlen hr hF hb

/-! ### a law's own def: the script is cut first, the rest is told by Oz -/
section
variable {G : Glb} {P : Program} {w : World} {K : PySem.W.Frag} {mg : Str → Option Value} {base : Heap}
def tCut (K : PySem.W.Frag) : TS := tAsg (tSl (rSlL K) (tVar 0) tNoPart (tPart (L2.tC (.int 63)))) (gName 0)
theorem cut63 {xs : List V} (h : xs.length ≤ 63) : cutV xs none (some 63) = xs := by
  unfold cutV
  rw [HT.sIx_none, show HT.sIx xs.length xs.length (some (63 : Int)) = min 63 xs.length from HT.sIx_nat xs.length xs.length 63, Nat.min_eq_right h]
  simp
theorem law_of {k : Nat} {f : Addr} {x qual : Str} {params : Arguments} {body : List Stmt} {scope : Scope} {dvs : List V} {kws : List (Str × V)} {fd : FuncData} {N : List Str} {p : Str} {M : Mach} {rest : Cs} {nn : Nat} (F : FunD K x qual params body scope dvs kws f fd) (Sc : FnScope N [p] scope) (hnn : N.length = nn + 1)
    (hbody : ∀ (cdv : Value) (A : Around) (outer : List Env) (s : Shared) (H : Hp) (E : XK), Room k (A.deeper (envOfC qual scope s.heap.objs.size f cdv)) → A.guards = some [] → PSs (cxOf (L2.CX P w) P w K mg base N qual scope f cdv A outer s H E) body (tSeq (tCut K) (tCs G M (fun cls d _ H' => E cls d H') rest)))
    (hlaw : ∀ ns : List Int, ns.length ≤ 63 → ∃ T, exec M rest (some (.lst (ns.map .int)) :: List.replicate nn none) [] = .ret (.val (.bl true)) T) : FnG P w K mg base (k + 1) f fd [p] (spEnd K 63) := by
  obtain ⟨oc, od, dV, kV, doc, pm, an, cdv, ct, osl, rfl, lk, hcd, _, _⟩ := F.ex
  refine ⟨fun vs H Q E h => by obtain ⟨a, ns, rfl, _⟩ := h; rfl, fun A outer s H args us vs Q E hr hgd e0 hb r hsp => ?_⟩
  obtain ⟨a, ns, rfl, hS, hlen, hQ⟩ := hsp
  have topIn : K.In s.heap := e0.mod.kin.keeps fun b o e => (e0.bs b o e).1
  have noLim : s.heap.NoLimit := e0.mod.nolimit.keeps fun b o e => (e0.bs b o e).1
  refine codeAny_call_function hr.depth (topIn _ _ lk) rfl Sc.co Sc.gen rfl (PySem.W.codeRec_of topIn hcd) (hb _ _ _ _ (wpAny_newFunctionEnv_cells Sc.kind (fun ⟨n, v⟩ hy => (Sc.par n (List.of_mem_zip hy).1).imp id fun z => ⟨z, PySem.W.cellsFrom_some _ _ _ (.inl z)⟩) fun env he s1 x => ?_))
  subst he
  refine ⟨noLim.keeps x.toInCall.keep, codeAny_func ?_⟩
  have start0 : Inv (cxOf (L2.CX P w) P w K mg base N qual scope f cdv A outer s H E) [] (L2.start N [.ref a]) H s1 := inv_start Sc hr.hd e0 rfl r x
  obtain ⟨T, hT⟩ := hlaw ns hlen
  have run0 := (hbody cdv A outer s H E (hr.deeper _) hgd).run [] s1 (L2.start N [.ref a]) H { nx := fun _ H' => Q .non H', rt := Q } start0 (by
    have l1 : (ns.map V.int).length ≤ 63 := by rw [List.length_map]; exact hlen
    refine ⟨.ref a, rfl, 63, rfl, a, ns.map V.int, rfl, hS, fun q hq => ?_⟩
    rw [cut63 l1]
    have hv : VR G [] (upd H q (.lst (ns.map V.int))) (.lst (ns.map .int)) (.ref q) := by
      simp only [VR]
      refine ⟨q, _, rfl, ⟨.inl upd_same, by simp⟩, VRs.of_get (by simp) fun i y v e1 e2 => ?_⟩
      rw [List.getElem?_map] at e1 e2
      cases e3 : ns[i]? with
      | none => rw [e3] at e1; cases e1
      | some z => rw [e3] at e1 e2; cases e1; cases e2; simp only [VR]
    have hlen2 : (L2.start N [.ref a]).length = N.length := by unfold L2.start; simp; omega
    refine ⟨[], some (.lst (ns.map .int)) :: List.replicate nn none, [], ⟨rfl, List.nodup_nil, fun r o a e => by simp at e⟩, ⟨?_, fun i y e => ?_⟩, ?_⟩
    · simp only [List.length_cons, List.length_replicate, List.length_set, hlen2, hnn]
    · cases i with
      | zero =>
        cases e
        exact ⟨.ref q, by rw [List.getElem?_set_self (by rw [hlen2]; omega)], hv⟩
      | succ i =>
        rw [List.getElem?_cons_succ, List.getElem?_replicate] at e
        split at e <;> simp at e
    · rw [hT]
      intro ρ' H' st s' v hv
      simp only [VR] at hv
      subst hv
      exact hQ H')
  refine wpAny_mono run0 (fun fl s' hs => ?_) fun _ _ z => z
  cases fl with
  | ret u => obtain ⟨v, σ', H', J, rv, z⟩ := hs; exact ⟨v, H', J.os, J.bare, J.base, J.hok, rv, z⟩
  | next => obtain ⟨σ', H', J, z⟩ := hs; exact ⟨.non, H', J.os, J.bare, J.base, J.hok, rfl, z⟩
  | brk => obtain ⟨_, _, _, z⟩ := hs; exact z.elim
  | cont => obtain ⟨_, _, _, z⟩ := hs; exact z.elim
end

/-! ### a def, with what its derivation asks of the surroundings -/
section
variable {G : Glb} {P : Program} {w : World} {mg : Str → Option Value} {base : Heap}
theorem good_cx {k : Nat} {f : Addr} {qual : Str} {scope : Scope} {N ps : List Str} {cdv : Value} {A : Around} {outer : List Env} {s : Shared} {H : Hp} {E : XK} (Sc : FnScope N ps scope) (hr : Room k (A.deeper (envOfC qual scope s.heap.objs.size f cdv))) (hg : A.guards = some []) : Good G k (cxOf (L2.CX P w) P w G.K mg base N qual scope f cdv A outer s H E) := ⟨rfl, Sc.nd, rfl, hr, hg⟩
theorem g_of2 {k : Nat} {f : Addr} {x qual q : Str} {params : Arguments} {body : List Stmt} {scope : Scope} {dvs : List V} {kws : List (Str × V)} {fd : FuncData} {N ps : List Str} {M M' : Mach} {d : Dfn} (F : FunD G.K x qual params body scope dvs kws f fd) (Sc : FnScope N ps scope)
    (hM : ∀ xs S, M.cal q xs S = calD M' d xs S) (hnp : d.np = ps.length) (hnn : d.nn = N.length)
    (hbody : ∀ (cdv : Value) (A : Around) (outer : List Env) (s : Shared) (H : Hp) (E : XK), Good G k (cxOf (L2.CX P w) P w G.K mg base N qual scope f cdv A outer s H E) →
      PassesOwn (model (cxOf (L2.CX P w) P w G.K mg base N qual scope f cdv A outer s H E).prog (cxOf (L2.CX P w) P w G.K mg base N qual scope f cdv A outer s H E).w) (cxOf (L2.CX P w) P w G.K mg base N qual scope f cdv A outer s H E).A (cxOf (L2.CX P w) P w G.K mg base N qual scope f cdv A outer s H E).env (cxOf (L2.CX P w) P w G.K mg base N qual scope f cdv A outer s H E).xe →
      Takes (cxOf (L2.CX P w) P w G.K mg base N qual scope f cdv A outer s H E) (fun cls d _ H' => E cls d H') → PSs (cxOf (L2.CX P w) P w G.K mg base N qual scope f cdv A outer s H E) body (tCs G M' (fun cls d _ H' => E cls d H') d.body)) :
    FnG P w G.K mg base (k + 1) f fd ps (spI G M d.np q) :=
  g_of F Sc hM hnp hnn fun cdv A outer s H E hr hg => hbody cdv A outer s H E (good_cx Sc hr hg) (L2.passes_of rfl) (L2.takes_of rfl rfl rfl rfl)
theorem law_of2 {k : Nat} {f : Addr} {x qual : Str} {params : Arguments} {body : List Stmt} {scope : Scope} {dvs : List V} {kws : List (Str × V)} {fd : FuncData} {N : List Str} {p : Str} {M : Mach} {rest : Cs} {nn : Nat} (F : FunD G.K x qual params body scope dvs kws f fd) (Sc : FnScope N [p] scope) (hnn : N.length = nn + 1)
    (hbody : ∀ (cdv : Value) (A : Around) (outer : List Env) (s : Shared) (H : Hp) (E : XK), Good G k (cxOf (L2.CX P w) P w G.K mg base N qual scope f cdv A outer s H E) →
      PassesOwn (model (cxOf (L2.CX P w) P w G.K mg base N qual scope f cdv A outer s H E).prog (cxOf (L2.CX P w) P w G.K mg base N qual scope f cdv A outer s H E).w) (cxOf (L2.CX P w) P w G.K mg base N qual scope f cdv A outer s H E).A (cxOf (L2.CX P w) P w G.K mg base N qual scope f cdv A outer s H E).env (cxOf (L2.CX P w) P w G.K mg base N qual scope f cdv A outer s H E).xe →
      Takes (cxOf (L2.CX P w) P w G.K mg base N qual scope f cdv A outer s H E) (fun cls d _ H' => E cls d H') → PSs (cxOf (L2.CX P w) P w G.K mg base N qual scope f cdv A outer s H E) body (tSeq (tCut G.K) (tCs G M (fun cls d _ H' => E cls d H') rest)))
    (hlaw : ∀ ns : List Int, ns.length ≤ 63 → ∃ T, exec M rest (some (.lst (ns.map .int)) :: List.replicate nn none) [] = .ret (.val (.bl true)) T) : FnG P w G.K mg base (k + 1) f fd [p] (spEnd G.K 63) :=
  law_of (G := G) F Sc hnn (fun cdv A outer s H E hr hg => hbody cdv A outer s H E (good_cx Sc hr hg) (L2.passes_of rfl) (L2.takes_of rfl rfl rfl rfl)) hlaw
theorem g_zero {K : PySem.W.Frag} {k n : Nat} {f : Addr} {fd : FuncData} {ps : List Str} {M : Mach} {q : Str} (hn : n = ps.length) (hM : ∀ xs S, M.cal q xs S = .bad) : FnG P w K mg base k f fd ps (spI G M n q) :=
  ⟨fun vs H Q E h => h.1.trans hn, fun A outer s H args us vs Q E hr hgd e0 hb r hsp => by
    obtain ⟨_, ρ, S, xs, _, _, hp⟩ := hsp
    rw [hM] at hp
    exact hp.elim⟩
end
section
variable {K : PySem.W.Frag} {x qual : Str} {params : Arguments} {body : List Stmt} {scope : Scope} {f : Addr} {fd : FuncData} {ps : List Str} {kws : List (Str × V)}
theorem dfl_none {dV : Value} (h : DflV K dV []) : dV = .none := h.elim (fun z => z.2) fun z => absurd rfl z.1
theorem bnd0 (F : FunD K x qual params body scope [] kws f fd) (h : ∀ (kV doc pm : Value) (an : Option Addr) (cdv ct : Value) (us : List Value), us.length = ps.length → bindArgs (PySem.W.fnOf x qual params body scope .none kV doc pm an cdv ct) ⟨us, []⟩ = pure (ps.zip us)) : Binds K fd ps [] := by
  obtain ⟨oc, od, dV, kV, doc, pm, an, cdv, ct, osl, rfl, lk, hcd, hD, hK⟩ := F.ex
  cases dfl_none hD
  exact .all (h kV doc pm an cdv ct)
theorem bndU (F : FunD K x qual params body scope [] kws f fd) (h : ∀ (kV doc pm : Value) (an : Option Addr) (cdv ct : Value) (u : Value), bindArgs (PySem.W.fnOf x qual params body scope .none kV doc pm an cdv ct) ⟨[u], []⟩ = pure (ps.zip [u])) (s : Shared) (u : Value) : BindsTo s fd ⟨[u], []⟩ (ps.zip [u]) := by
  obtain ⟨oc, od, dV, kV, doc, pm, an, cdv, ct, osl, rfl, lk, hcd, hD, hK⟩ := F.ex
  cases dfl_none hD
  exact .of_eq (h kV doc pm an cdv ct u)
theorem kbn0 (F : FunD K x qual params body scope [] kws f fd) (n : Nat) (ks : List Str) (h : ∀ (kV doc pm : Value) (an : Option Addr) (cdv ct : Value) (us ws : List Value), us.length = n → ws.length = ks.length → bindArgs (PySem.W.fnOf x qual params body scope .none kV doc pm an cdv ct) ⟨us, ks.zip ws⟩ = pure (ps.zip (us ++ ws))) : KBn K fd ps n ks (fun us ws => us ++ ws ++ []) (fun vs zs => vs ++ zs ++ []) := by
  obtain ⟨oc, od, dV, kV, doc, pm, an, cdv, ct, osl, rfl, lk, hcd, hD, hK⟩ := F.ex
  cases dfl_none hD
  refine ⟨fun s us ws _ l1 l2 => ?_, fun r1 r2 => (r1.append r2).append .nil⟩
  rw [List.append_nil]
  exact .of_eq (h kV doc pm an cdv ct us ws l1 l2)
theorem fund_mk {st : Stmt} {oc : Value} {od an : Option Addr} {osl : Array (Option Value)} {kV doc pm cdv ct : Value} (l : K.lookup f = some ⟨oc, od, .func (PySem.W.fnOf x qual (defArgs st) (defBody st) (defScope st) .none kV doc pm an cdv ct), osl⟩)
    (c : PySem.W.codeIn K cdv qual = true) (k : PySem.W.keepIn K (.ref f) = true) (hk : KwdV K kV kws) : FunD K x qual (defArgs st) (defBody st) (defScope st) [] kws f (PySem.W.fnOf x qual (defArgs st) (defBody st) (defScope st) .none kV doc pm an cdv ct) := ⟨⟨oc, od, .none, kV, doc, pm, an, cdv, ct, osl, rfl, l, c, .inl ⟨rfl, rfl⟩, hk⟩, k⟩
end
end Oz
set_option Elab.async false
set_option linter.all false
set_option maxRecDepth 100000
set_option maxHeartbeats 4000000
/-! Oz: plain laws of what code does. -/
namespace Oz
open PySem L2

/-! ### values without references -/
mutual
def Vl.nr : Vl → Bool
  | .tup xs | .lst xs | .dct _ xs | .obj _ _ xs => nrs xs
  | .ref _ => false
  | _ => true
def nrs : List Vl → Bool
  | [] => true
  | x :: xs => Vl.nr x && nrs xs
end
def Ob.nr : Ob → Bool
  | .lst xs | .dct _ xs | .ins _ _ xs => nrs xs
mutual
theorem nr_lim (n : Nat) : ∀ v : Vl, v.nr = true → v.lim n = true
  | .non, _ | .bl _, _ | .int _, _ | .str _, _ => by simp only [Vl.lim]
  | .tup xs, h | .lst xs, h | .dct _ xs, h | .obj _ _ xs, h => by simp only [Vl.nr] at h; simp only [Vl.lim]; exact nrs_lim n xs h
  | .ref _, h => by simp [Vl.nr] at h
theorem nrs_lim (n : Nat) : ∀ v : List Vl, nrs v = true → limAll n v = true
  | [], _ => by simp only [limAll]
  | x :: xs, h => by
    simp only [nrs, Bool.and_eq_true] at h
    simp only [limAll, nr_lim n x h.1, nrs_lim n xs h.2, Bool.and_self]
end
mutual
theorem nr_mapO (f : Nat → Option Vl) : ∀ v : Vl, v.nr = true → v.mapO f = some v
  | .non, _ | .bl _, _ | .int _, _ | .str _, _ => by simp only [Vl.mapO]
  | .tup xs, h | .lst xs, h | .dct _ xs, h | .obj _ _ xs, h => by simp only [Vl.nr] at h; simp only [Vl.mapO, nrs_mapO f xs h, Option.map_some]
  | .ref _, h => by simp [Vl.nr] at h
theorem nrs_mapO (f : Nat → Option Vl) : ∀ v : List Vl, nrs v = true → mapOs f v = some v
  | [], _ => by simp only [mapOs]
  | x :: xs, h => by
    simp only [nrs, Bool.and_eq_true] at h
    simp only [mapOs, nr_mapO f x h.1, nrs_mapO f xs h.2, Option.bind_some, Option.map_some]
end
mutual
theorem nr_mapRef (f : Nat → Vl) : ∀ v : Vl, v.nr = true → v.mapRef f = v
  | .non, _ | .bl _, _ | .int _, _ | .str _, _ => by simp only [Vl.mapRef]
  | .tup xs, h | .lst xs, h | .dct _ xs, h | .obj _ _ xs, h => by simp only [Vl.nr] at h; simp only [Vl.mapRef, nrs_mapRef f xs h]
  | .ref _, h => by simp [Vl.nr] at h
theorem nrs_mapRef (f : Nat → Vl) : ∀ v : List Vl, nrs v = true → mapRefs f v = v
  | [], _ => by simp only [mapRefs]
  | x :: xs, h => by
    simp only [nrs, Bool.and_eq_true] at h
    simp only [mapRefs, nr_mapRef f x h.1, nrs_mapRef f xs h.2]
end
theorem nrs_of : ∀ {xs : List Vl}, (∀ x ∈ xs, x.nr = true) → nrs xs = true
  | [], _ => by simp only [nrs]
  | x :: xs, h => by
    simp only [nrs, h x (List.mem_cons_self ..), nrs_of fun y hy => h y (List.mem_cons_of_mem _ hy), Bool.and_self]
theorem of_nrs : ∀ {xs : List Vl}, nrs xs = true → ∀ x ∈ xs, x.nr = true
  | [], _, _, h => by simp at h
  | x :: xs, h, y, hy => by
    simp only [nrs, Bool.and_eq_true] at h
    rcases List.mem_cons.mp hy with rfl | hy
    · exact h.1
    · exact of_nrs h.2 y hy
theorem nrs_append {xs ys : List Vl} (h : nrs xs = true) (k : nrs ys = true) : nrs (xs ++ ys) = true := nrs_of fun x hx => (List.mem_append.mp hx).elim (of_nrs h x) (of_nrs k x)
theorem nrs_map_str (zs : List Str) : nrs (zs.map Vl.str) = true := nrs_of fun x hx => by
  obtain ⟨z, _, rfl⟩ := List.mem_map.mp hx
  simp only [Vl.nr]
theorem nrs_map_int (zs : List Int) : nrs (zs.map Vl.int) = true := nrs_of fun x hx => by
  obtain ⟨z, _, rfl⟩ := List.mem_map.mp hx
  simp only [Vl.nr]
theorem inlS_nr (k : Nat) (S : Hs) {v : Vl} (h : v.nr = true) : inlS k S v = v := by
  cases k with
  | zero => simp only [inlS]; exact nr_mapRef _ v h
  | succ k => simp only [inlS]; exact nr_mapRef _ v h
def NR (S : Hs) : Prop := ∀ o ∈ S, o.nr = true
theorem NR.nil : NR [] := fun o h => by simp at h
theorem NR.app {S T : Hs} (h : NR S) (k : NR T) : NR (S ++ T) := fun o ho => (List.mem_append.mp ho).elim (h o) (k o)
theorem NR.one {S : Hs} (h : NR S) {o : Ob} (k : o.nr = true) : NR (S ++ [o]) := h.app fun p hp => by simp at hp; rw [hp]; exact k
theorem NR.cl {S : Hs} (h : NR S) (n : Nat) : S.all (Ob.lim n) = true := List.all_eq_true.mpr fun o ho => by
  have := h o ho
  cases o <;> exact nrs_lim n _ this
theorem NR.take {S : Hs} (h : NR S) (n : Nat) : NR (S.take n) := fun o ho => h o (List.mem_of_mem_take ho)
theorem NR.set {S : Hs} (h : NR S) (r : Nat) {o : Ob} (k : o.nr = true) : NR (S.set r o) := fun p hp => by
  rcases List.mem_or_eq_of_mem_set hp with z | z
  · exact h p z
  · rw [z]; exact k
theorem NR.at {S : Hs} (h : NR S) {r : Nat} {o : Ob} (e : S[r]? = some o) : o.nr = true := h o (List.mem_of_getElem? e)
/-! ### what a def hands back -/
theorem finV_nr {n : Nat} {T : Hs} {v : Vl} (h : v.nr = true) : finV n T v = .ok (.val v) (T.take n) := by
  cases v with
  | ref r => simp [Vl.nr] at h
  | _ => simp only [finV, nr_mapO _ _ h]
theorem finR_val {n : Nat} {T : Hs} {v : Vl} (hT : NR (T.take n)) (h : v.nr = true) : finR n (.val v) T = .ok (.val v) (T.take n) := by
  unfold finR
  rw [if_pos (hT.cl n)]
  exact finV_nr h
theorem ob_mapO {o : Ob} (f : Nat → Option Vl) (h : o.nr = true) : o.mapO f = some o := by
  cases o <;> simp only [Ob.nr] at h <;> simp only [Ob.mapO, nrs_mapO f _ h, Option.map_some]
theorem finR_ref {n r : Nat} {T : Hs} {o : Ob} (hT : NR (T.take n)) (hr : n ≤ r) (e : T[r]? = some o) (h : o.nr = true) : finR n (.val (.ref r)) T = .ok (.frs o) (T.take n) := by
  unfold finR
  rw [if_pos (hT.cl n)]
  simp only [finV]
  rw [if_neg (by omega), e]
  simp only [ob_mapO _ h]
theorem finR_frs {n : Nat} {T : Hs} {o : Ob} (hn : n ≤ T.length) (hT : NR (T.take n)) (h : o.nr = true) : finR n (.frs o) T = .ok (.frs o) (T.take n) := by
  unfold finR
  rw [if_pos (hT.cl n)]
  simp only [finV]
  rw [if_neg (by omega)]
  simp only [List.getElem?_concat_length, ob_mapO _ h, List.take_append_of_le_length hn]
/-- a def's end by its body's -/
theorem cal_val {M : Mach} {d : Dfn} {xs : List Vl} {S T : Hs} {v : Vl} (hl : xs.length = d.np) (hb : exec M d.body (xs.map some ++ List.replicate (d.nn - xs.length) none) S = .ret (.val v) (S ++ T)) (hS : NR S) (hv : v.nr = true) : calD M d xs S = .ok (.val v) S := by
  unfold calD
  rw [if_pos hl, hb]
  simp only
  rw [finR_val (by simpa using hS) hv]
  simp
theorem cal_ref {M : Mach} {d : Dfn} {xs : List Vl} {S T : Hs} {o : Ob} {r : Nat} (hl : xs.length = d.np) (hb : exec M d.body (xs.map some ++ List.replicate (d.nn - xs.length) none) S = .ret (.val (.ref (S.length + r))) (S ++ T)) (hS : NR S) (ho : T[r]? = some o) (hv : o.nr = true) : calD M d xs S = .ok (.frs o) S := by
  unfold calD
  rw [if_pos hl, hb]
  simp only
  rw [finR_ref (o := o) (by simpa using hS) (by omega) (by rw [List.getElem?_append_right (by omega)]; simpa using ho) hv]
  simp
theorem cal_frs {M : Mach} {d : Dfn} {xs : List Vl} {S T : Hs} {o : Ob} (hl : xs.length = d.np) (hb : exec M d.body (xs.map some ++ List.replicate (d.nn - xs.length) none) S = .ret (.frs o) (S ++ T)) (hS : NR S) (hv : o.nr = true) : calD M d xs S = .ok (.frs o) S := by
  unfold calD
  rw [if_pos hl, hb]
  simp only
  rw [finR_frs (by simp) (by simpa using hS) hv]
  simp
/-- an __init__: it changes its own thing, which stands last -/
theorem cal_init {M : Mach} {d : Dfn} {xs : List Vl} {S : Hs} {o o' : Ob} (hl : xs.length = d.np) (hb : ∃ η, exec M d.body (xs.map some ++ List.replicate (d.nn - xs.length) none) (S ++ [o]) = .nx η (S ++ [o'])) (hS : NR S) (hv : o'.nr = true) : calD M d xs (S ++ [o]) = .ok (.val .non) (S ++ [o']) := by
  obtain ⟨η, hb⟩ := hb
  unfold calD
  rw [if_pos hl, hb]
  simp only
  have e : (S ++ [o']).take (S ++ [o]).length = S ++ [o'] := List.take_of_length_le (by simp)
  rw [finR_val (by rw [e]; exact hS.one hv) (by simp only [Vl.nr]), e]
theorem newR_done {S : Hs} {o : Ob} (h : NR S) (ho : o.nr = true) : newR S (.ok (.val .non) (S ++ [o])) = .ok o S := by
  unfold newR
  simp only [List.getLast?_append, List.getLast?_singleton, Option.some_or, List.length_append, List.length_cons, List.length_nil, List.dropLast_concat]
  rw [if_pos ⟨trivial, (h.one ho).cl _⟩]

theorem len_lst (S : Hs) (xs : List Vl) : b1op .len S (.lst xs) = some (.int xs.length) := rfl
theorem len_tup (S : Hs) (xs : List Vl) : b1op .len S (.tup xs) = some (.int xs.length) := rfl
theorem pop0 {x : Vl} {xs : List Vl} : mutop .popAt (x :: xs) [.int 0] = some (x, xs) := by
  unfold mutop
  simp only
  rw [if_pos ⟨by decide, by decide⟩]
  have e : seqIndex? 0 (x :: xs).length = some 0 := by
    unfold seqIndex?
    simp
  rw [e]
  simp
theorem set_last {α : Type} (S : List α) (a b : α) : (S ++ [a]).set S.length b = S ++ [b] := by simp
/-! ### operations -/
theorem b_add (i j : Int) : binop .Add (.int i) (.int j) = some (.int (i + j)) := rfl
theorem b_sub (i j : Int) : binop .Sub (.int i) (.int j) = some (.int (i - j)) := rfl
theorem b_mod {i j : Int} (h : 0 < j) : binop .Mod (.int i) (.int j) = some (.int (i % j)) := if_pos h
theorem b_fdiv {i j : Int} (h : 0 < j) (k : j < 1073741824) : binop .FloorDiv (.int i) (.int j) = some (.int (i / j)) := if_pos ⟨h, k⟩
theorem b_mulR {i j : Int} (h : -(2 ^ 64) < j) (k : j < 2 ^ 64) : binop .Mult (.int i) (.int j) = some (.int (i * j)) := if_pos (by unfold mulOk; rw [decide_eq_true h, decide_eq_true k]; simp)
theorem b_mulL {i j : Int} (h : -(2 ^ 64) < i) (k : i < 2 ^ 64) : binop .Mult (.int i) (.int j) = some (.int (i * j)) := if_pos (by unfold mulOk; rw [decide_eq_true h, decide_eq_true k]; simp)
theorem b_pow {i j : Int} (h : 0 ≤ j) (k : j ≤ 1000000) (l : i.natAbs < 2 ^ 64) : binop .Pow (.int i) (.int j) = some (.int (i ^ j.toNat)) := if_pos ⟨h, k, l⟩
theorem b_adds {i j : Str} (h : i.length + j.length ≤ sizeLine) : binop .Add (.str i) (.str j) = some (.str (i ++ j)) := if_pos h
theorem b_addt {xs ys : List Vl} (h : xs.length + ys.length ≤ 1000000) (k : xs ≠ []) : binop .Add (.tup xs) (.tup ys) = some (.tup (xs ++ ys)) := if_pos ⟨Nat.le_trans h (by decide), k⟩
theorem ix_lst {S : Hs} {xs : List Vl} {x : Vl} {i : Nat} (h : xs[i]? = some x) : idxop S (.lst xs) (.int i) = some x := by
  unfold idxop
  exact atI_nat h
theorem ix_tup {S : Hs} {xs : List Vl} {x : Vl} {i : Nat} (h : xs[i]? = some x) : idxop S (.tup xs) (.int i) = some x := by
  unfold idxop
  exact atI_nat h
theorem ix_str {S : Hs} {z : Str} {c : Nat} {i : Nat} (hz : z.length ≤ 1000000) (h : z.cps.toList[i]? = some c) : idxop S (.str z) (.int i) = some (.str ⟨#[c]⟩) := by
  have e : idxop S (.str z) (.int i) = if z.length ≤ sizeLine then (atI z.cps.toList (i : Int)).map fun c => .str ⟨#[c]⟩ else none := rfl
  rw [e, if_pos (Nat.le_trans hz (by decide)), atI_nat h]; rfl
theorem lstAt_last (S : Hs) (xs : List Vl) : lstAt (S ++ [.lst xs]) (.ref S.length) = some S.length := by
  unfold lstAt
  simp only [List.getElem?_concat_length]
theorem mut_app {xs : List Vl} {y : Vl} (h : xs.length < 1000000) : mutop .append xs [y] = some (.non, xs ++ [y]) := if_pos (Nat.lt_of_lt_of_le h (by decide))
theorem rng_at {n i : Nat} {x : Vl} (h : (rngL 0 n)[i]? = some x) : i < n ∧ x = .int i := by
  obtain ⟨h1, h2⟩ := rngL_at h
  exact ⟨h1, by rw [h2, Int.zero_add]⟩
/-! ### loops -/
theorem forL_ok {body : Sg → Hs → Out} {t : Tg} {lk : List Lk} (I : Nat → Sg → Hs → Prop) : ∀ (xs : List Vl) (k : Nat) (η : Sg) (S : Hs), I k η S → (∀ i η S, I i η S → lockd lk S) →
    (∀ i x η S, xs[i]? = some x → I (k + i) η S → ∃ η1, bindT t x η = some η1 ∧ ∃ η2 S2, (body η1 S = .nx η2 S2 ∨ body η1 S = .cnt η2 S2) ∧ I (k + i + 1) η2 S2) →
    ∃ η' S', forL body t lk xs η S = .nx η' S' ∧ I (k + xs.length) η' S'
  | [], k, η, S, h0, hl, _ => ⟨η, S, by unfold forL; rw [if_pos (hl k η S h0)], h0⟩
  | x :: xs, k, η, S, h0, hl, hs => by
    obtain ⟨η1, e1, η2, S2, e2, h2⟩ := hs 0 x η S rfl h0
    obtain ⟨η', S', e3, h3⟩ := forL_ok I xs (k + 1) η2 S2 h2 hl fun i y η S ey hI => by
      have := hs (i + 1) y η S (by simpa using ey) (by rw [show k + (i + 1) = k + 1 + i by omega]; exact hI)
      rw [show k + (i + 1) + 1 = k + 1 + i + 1 by omega] at this
      exact this
    refine ⟨η', S', ?_, by rw [List.length_cons, show k + (xs.length + 1) = k + 1 + xs.length by omega]; exact h3⟩
    unfold forL
    rw [if_pos (hl k η S h0), e1]
    rcases e2 with e2 | e2 <;> simp only [e2] <;> exact e3
theorem for_ok {body : Sg → Hs → Out} {t : Tg} {lk : List Lk} {xs : List Vl} {η : Sg} {S : Hs} (I : Nat → Sg → Hs → Prop) (h0 : I 0 η S) (hl : ∀ i η S, I i η S → lockd lk S)
    (hs : ∀ i x η S, xs[i]? = some x → I i η S → ∃ η1, bindT t x η = some η1 ∧ ∃ η2 S2, (body η1 S = .nx η2 S2 ∨ body η1 S = .cnt η2 S2) ∧ I (i + 1) η2 S2) : ∃ η' S', forL body t lk xs η S = .nx η' S' ∧ I xs.length η' S' := by
  obtain ⟨η', S', h, k⟩ := forL_ok I xs 0 η S h0 hl fun i x η S e h => by rw [Nat.zero_add] at h ⊢; exact hs i x η S e h
  rw [Nat.zero_add] at k
  exact ⟨η', S', h, k⟩
theorem ev_rng1 {M : Mach} {e : E} {η : Sg} {S S1 : Hs} {k : Nat} (h : ev M e η S = .ok (.int k) S1) (hk : k ≤ 1000000) : evS M (.rng1 e) η S = .ok ([], rngL 0 k) S1 := by
  simp only [evS, h, Res.bind]
  rw [if_pos ⟨by omega, by omega⟩, Int.toNat_natCast]
theorem lock_nil (S : Hs) : lockd [] S := fun p h => by simp at h
/-- a comprehension that leaves the heap as it is -/
theorem compL_ok {step : Vl → Hs → Res (Option Vl)} {lk : List Lk} {S : Hs} (f : Vl → Option Vl) (hl : lockd lk S) : ∀ (xs acc : List Vl), acc.length + xs.length ≤ 1000000 → nrs acc = true → (∀ x ∈ xs, ∀ y, f x = some y → y.nr = true) →
    (∀ x ∈ xs, ∀ acc : List Vl, nrs acc = true → step x (S ++ [.lst acc]) = .ok (f x) (S ++ [.lst acc])) → compL step lk xs acc S = .ok (acc ++ xs.filterMap f) S
  | [], acc, _, _, _, _ => by unfold compL; rw [if_pos hl]; simp
  | x :: xs, acc, hz, ha, hy, hs => by
    have hlt : acc.length < sizeLine := by
      have : (1000000 : Nat) < sizeLine := by decide
      rw [List.length_cons] at hz; omega
    unfold compL
    rw [if_pos hl, hs x (List.mem_cons_self ..) acc ha]
    simp only
    rw [if_pos ⟨trivial, hlt⟩]
    rw [List.length_cons] at hz
    cases e : f x with
    | none =>
      simp only
      rw [compL_ok f hl xs acc (by omega) ha (fun y h => hy y (List.mem_cons_of_mem _ h)) fun y h => hs y (List.mem_cons_of_mem _ h)]
      simp [e]
    | some y =>
      have ny := hy x (List.mem_cons_self ..) y e
      simp only
      rw [if_pos (nr_lim _ _ ny), compL_ok f hl xs (acc ++ [y]) (by simp; omega) (nrs_append ha (by simp only [nrs, ny, Bool.and_self])) (fun y h => hy y (List.mem_cons_of_mem _ h)) fun y h => hs y (List.mem_cons_of_mem _ h)]
      simp [e]
theorem compS_ok {step : Vl → Hs → Res (List Str)} {lk : List Lk} {S : Hs} (f : Vl → List Str) (hl : lockd lk S) : ∀ (xs : List Vl), (∀ x ∈ xs, step x S = .ok (f x) S) → compS step lk xs S = .ok (xs.flatMap f) S
  | [], _ => by unfold compS; rw [if_pos hl]; rfl
  | x :: xs, hs => by
    unfold compS
    rw [if_pos hl, hs x (List.mem_cons_self ..)]
    simp only
    rw [if_pos trivial, compS_ok f hl xs fun y h => hs y (List.mem_cons_of_mem _ h)]
    simp [Res.bind]

/-! ### data -/
mutual
def Vl.pd : Vl → Bool
  | .non | .bl _ => true
  | .int i => decide (i.natAbs < 10 ^ 6)
  | .str z => PyData.strOk z
  | .tup xs | .lst xs => pds xs
  | _ => false
def pds : List Vl → Bool
  | [] => true
  | x :: xs => Vl.pd x && pds xs
end
mutual
def Vl.wt : Vl → Nat
  | .int _ => 20
  | .str z => z.length
  | .tup xs | .lst xs => wts xs
  | _ => 0
def wts : List Vl → Nat
  | [] => 0
  | x :: xs => Vl.wt x + 1 + wts xs
end
mutual
def Vl.dep : Vl → Nat
  | .tup xs | .lst xs => deps xs + 1
  | _ => 0
def deps : List Vl → Nat
  | [] => 0
  | x :: xs => max (Vl.dep x) (deps xs)
end
mutual
theorem pd_nr : ∀ v : Vl, v.pd = true → v.nr = true
  | .non, _ | .bl _, _ | .int _, _ | .str _, _ => by simp only [Vl.nr]
  | .tup xs, h | .lst xs, h => by simp only [Vl.pd] at h; simp only [Vl.nr]; exact pds_nr xs h
  | .dct _ xs, h | .obj _ _ xs, h | .ref _, h => by simp [Vl.pd] at h
theorem pds_nr : ∀ v : List Vl, pds v = true → nrs v = true
  | [], _ => by simp only [nrs]
  | x :: xs, h => by
    simp only [pds, Bool.and_eq_true] at h
    simp only [nrs, pd_nr x h.1, pds_nr xs h.2, Bool.and_self]
end
theorem log_small {i : Int} (h : i.natAbs < 10 ^ 6) : i.natAbs.log2 < 20 := by
  by_cases z : i.natAbs = 0
  · rw [z]; decide
  · exact (Nat.log2_lt z).mpr (Nat.lt_trans h (by decide))
structure DOk (v : Vl) (d : PyData) : Prop where
  can : d.canLay0 = true
  short : d.intsShort 13 = true
  show_ : d.showable = true
  w : d.weight ≤ v.wt
  dp : d.depth ≤ v.dep
structure DsOk (v : List Vl) (d : List PyData) : Prop where
  can : PyData.canLayAll0 d = true
  short : PyData.intsShortAll 13 d = true
  show_ : PyData.showableAll d = true
  w : PyData.weightAll d ≤ wts v
  dp : PyData.depthAll d ≤ deps v
mutual
theorem pd_data : ∀ v : Vl, v.pd = true → ∃ d, v.toD = some d ∧ DOk v d
  | .non, _ => ⟨.none, by simp only [Vl.toD], by constructor <;> simp [PyData.canLay0, PyData.intsShort, PyData.showable, PyData.weight, PyData.depth]⟩
  | .bl b, _ => ⟨.bool b, by simp only [Vl.toD], by constructor <;> simp [PyData.canLay0, PyData.intsShort, PyData.showable, PyData.weight, PyData.depth]⟩
  | .int i, h => by
    simp only [Vl.pd, decide_eq_true_eq] at h
    have l := log_small h
    refine ⟨.int i, by simp only [Vl.toD], ?_⟩
    constructor
    · simp [PyData.canLay0]
    · have e := int_text_length_le10 (a := i) (k := 6) (by decide) h
      have e2 : (PyData.shown (.int i)).length = (toString i).length := by
        simp only [PyData.shown]
        exact ofString_length _
      simp only [PyData.intsShort, decide_eq_true_eq, e2]; omega
    · simp [PyData.showable]; omega
    · simp only [PyData.weight, Vl.wt]; split <;> omega
    · simp [PyData.depth]
  | .str z, h => by
    simp only [Vl.pd] at h
    refine ⟨.str z, by simp only [Vl.toD], ?_⟩
    constructor
    · simpa [PyData.canLay0] using h
    · simp [PyData.intsShort]
    · simp [PyData.showable]
    · simp only [PyData.weight, Vl.wt]; exact Nat.le_refl _
    · simp [PyData.depth]
  | .tup xs, h => by
    simp only [Vl.pd] at h
    obtain ⟨ds, e, k⟩ := pds_data xs h
    refine ⟨.tuple ds, by simp only [Vl.toD, e, Option.map_some], ?_⟩
    constructor
    · simpa [PyData.canLay0] using k.can
    · simpa [PyData.intsShort] using k.short
    · simpa [PyData.showable] using k.show_
    · simpa [PyData.weight, Vl.wt] using k.w
    · simpa [PyData.depth, Vl.dep] using k.dp
  | .lst xs, h => by
    simp only [Vl.pd] at h
    obtain ⟨ds, e, k⟩ := pds_data xs h
    refine ⟨.list ds, by simp only [Vl.toD, e, Option.map_some], ?_⟩
    constructor
    · simpa [PyData.canLay0] using k.can
    · simpa [PyData.intsShort] using k.short
    · simpa [PyData.showable] using k.show_
    · simpa [PyData.weight, Vl.wt] using k.w
    · simpa [PyData.depth, Vl.dep] using k.dp
  | .dct _ xs, h | .obj _ _ xs, h | .ref _, h => by simp [Vl.pd] at h
theorem pds_data : ∀ v : List Vl, pds v = true → ∃ d, toDs v = some d ∧ DsOk v d
  | [], _ => ⟨[], by simp only [toDs], by constructor <;> simp [PyData.canLayAll0, PyData.intsShortAll, PyData.showableAll, PyData.weightAll, PyData.depthAll]⟩
  | x :: xs, h => by
    simp only [pds, Bool.and_eq_true] at h
    obtain ⟨d, e, k⟩ := pd_data x h.1
    obtain ⟨ds, es, ks⟩ := pds_data xs h.2
    refine ⟨d :: ds, by simp only [toDs, e, es], ?_⟩
    constructor
    · simp only [PyData.canLayAll0, k.can, ks.can, Bool.and_self]
    · simp only [PyData.intsShortAll, k.short, ks.short, Bool.and_self]
    · simp only [PyData.showableAll, k.show_, ks.show_, Bool.and_self]
    · simp only [PyData.weightAll, wts]; have := k.w; have := ks.w; omega
    · simp only [PyData.depthAll, deps]; have := k.dp; have := ks.dp; omega
end
mutual
theorem eqv_self : ∀ d : PyData, d.canLay0 = true → PyData.eqv d d = true
  | .none, _ => by simp [PyData.eqv]
  | .bool _, _ | .int _, _ | .str _, _ => by simp [PyData.eqv]
  | .list xs, h | .tuple xs, h => by simp only [PyData.eqv]; exact eqvAll_self xs (by simpa [PyData.canLay0] using h)
  | .dict _, h => by simp [PyData.canLay0] at h
theorem eqvAll_self : ∀ d : List PyData, PyData.canLayAll0 d = true → PyData.eqvAll d d = true
  | [], _ => by simp [PyData.eqvAll]
  | x :: xs, h => by
    simp only [PyData.canLayAll0, Bool.and_eq_true] at h
    simp only [PyData.eqvAll, eqv_self x h.1, eqvAll_self xs h.2, Bool.and_self]
end
theorem dataOf_pd (S : Hs) {v : Vl} (h : v.pd = true) : ∃ d, dataOf S v = some d ∧ DOk v d := by
  obtain ⟨d, e, k⟩ := pd_data v h
  exact ⟨d, by unfold dataOf; rw [inlS_nr _ _ (pd_nr v h)]; exact e, k⟩
theorem DOk.shaped {v : Vl} {d : PyData} (k : DOk v d) (hd : v.dep ≤ 60) : SeqAt.shaped d = true := by
  unfold SeqAt.shaped
  rw [k.can, Bool.true_and]
  exact decide_eq_true (by have := k.dp; omega)
theorem dataEq_self (S : Hs) {v : Vl} (h : v.pd = true) (hd : v.dep ≤ 60) : dataEq S v v = some true := by
  obtain ⟨d, e, k⟩ := dataOf_pd S h
  unfold dataEq
  rw [e]
  simp only
  rw [if_pos ⟨k.shaped hd, k.shaped hd⟩, eqv_self d k.can]
theorem dctOf_pd (S : Hs) {v : Vl} (h : v.pd = true) : dctOf S v = none := by cases v <;> first | rfl | (simp [Vl.pd] at h)
theorem eqDct_l {S : Hs} {x : Vl} (y : Vl) (h : dctOf S x = none) : eqDct S x y = none := by unfold eqDct; rw [h]
theorem eqop_self (S : Hs) {v : Vl} (h : v.pd = true) (hd : v.dep ≤ 60) : eqop S v v = some true := by
  unfold eqop
  have h0 := eqDct_l v (dctOf_pd S h)
  cases v <;> simp only [eqS, decide_true] <;> (rw [h0]; exact dataEq_self S h hd)
theorem repr_ok (S : Hs) {v : Vl} (h : v.pd = true) (hd : v.dep ≤ 60) (hw : v.wt ≤ 2 ^ 20) : ∃ z, b1op .repr S v = some (.str z) := by
  obtain ⟨d, e, k⟩ := dataOf_pd S h
  refine ⟨d.shown, ?_⟩
  unfold b1op
  simp only [e]
  have hl : d.layable0 = true := by
    unfold PyData.layable0
    rw [k.can]
    simp only [Bool.true_and, Bool.and_eq_true, decide_eq_true_eq]
    have := k.dp; have := k.w
    omega
  rw [if_pos ⟨k.show_, Nat.le_trans (PyProof.Rows.shown_le13 hl k.short) (by decide), k.can, by have := k.dp; omega⟩]
theorem pds_of : ∀ {xs : List Vl}, (∀ x ∈ xs, x.pd = true) → pds xs = true
  | [], _ => by simp only [pds]
  | x :: xs, h => by simp only [pds, h x (List.mem_cons_self ..), pds_of fun y hy => h y (List.mem_cons_of_mem _ hy), Bool.and_self]
theorem deps_of {m : Nat} : ∀ {xs : List Vl}, (∀ x ∈ xs, x.dep ≤ m) → deps xs ≤ m
  | [], _ => by simp only [deps]; omega
  | x :: xs, h => by simp only [deps]; have := h x (List.mem_cons_self ..); have := deps_of fun y hy => h y (List.mem_cons_of_mem _ hy); omega
theorem wts_of {m : Nat} : ∀ {xs : List Vl}, (∀ x ∈ xs, x.wt ≤ m) → wts xs ≤ xs.length * (m + 1)
  | [], _ => by simp [wts]
  | x :: xs, h => by
    simp only [wts, List.length_cons]
    have := h x (List.mem_cons_self ..)
    have := wts_of fun y hy => h y (List.mem_cons_of_mem _ hy)
    rw [Nat.add_mul]
    omega

/-! ### code, statement by statement -/
section
variable {M : Mach} {c : C} {cs a b : Cs} {e : E} {f : F} {t : Tg} {s : Src} {η η1 η2 : Sg} {S S1 S2 : Hs} {x : Vl} {o : Ob} {r : Out} {lk : List Lk} {xs : List Vl}
theorem ex_nx (h : exc1 M c η S = .nx η1 S1) (k : exec M cs η1 S1 = r) : exec M (.cons c cs) η S = r := by simp only [exec, h, k]
theorem ex_ret {v : Rv} (h : exc1 M c η S = .ret v S1) : exec M (.cons c cs) η S = .ret v S1 := by simp only [exec, h]
theorem ex_nil : exec M .nil η S = .nx η S := by simp only [exec]
theorem x_asg (x : Vl) (S1 : Hs) (h : ev M e η S = .ok x S1) (hb : bindT t x η = some η1) : exc1 M (.asg t e) η S = .nx η1 S1 := by simp only [exc1, h, Res.out, hb]
theorem x_ite1 (S1 : Hs) (h : ev M e η S = .ok (.bl true) S1) (k : exec M a η S1 = r) : exc1 M (.ite e a b) η S = r := by simp only [exc1, h, Res.out, k]
theorem x_ite0 (S1 : Hs) (h : ev M e η S = .ok (.bl false) S1) (k : exec M b η S1 = r) : exc1 M (.ite e a b) η S = r := by simp only [exc1, h, Res.out, k]
theorem x_for (lk : List Lk) (xs : List Vl) (S1 : Hs) (h : evS M s η S = .ok (lk, xs) S1) (k : forL (fun η1 S2 => exec M b η1 S2) t lk xs η S1 = r) : exc1 M (.for_ t s b) η S = r := by simp only [exc1, h, Res.out, k]
theorem x_ret (x : Vl) (S1 : Hs) (h : ev M e η S = .ok x S1) : exc1 M (.ret e) η S = .ret (.val x) S1 := by simp only [exc1, h, Res.out]
theorem x_retf (o : Ob) (S1 : Hs) (h : evf M f η S = .ok o S1) : exc1 M (.retf f) η S = .ret (.frs o) S1 := by simp only [exc1, h, Res.out]
theorem x_ex (x : Vl) (S1 : Hs) (h : ev M e η S = .ok x S1) : exc1 M (.ex e) η S = .nx η S1 := by simp only [exc1, h, Res.out]
end
section
variable {M : Mach} {own : List Nat} {elt test : E} {t : Tg} {s : Src} {η : Sg} {S S1 : Hs} {lk : List Lk} {xs : List Vl}
theorem ev_comp (lk : List Lk) (xs : List Vl) (f : Vl → Option Vl) (h : evS M s η S = .ok (lk, xs) S1) (hl : lockd lk S1) (hz : xs.length ≤ 1000000) (hn : ∀ x ∈ xs, ∀ y, f x = some y → y.nr = true)
    (hs : ∀ x ∈ xs, ∀ acc : List Vl, nrs acc = true → ∃ η1 y, bindT t x (wipeG η own) = some η1 ∧ ev M elt η1 (S1 ++ [.lst acc]) = .ok y (S1 ++ [.lst acc]) ∧ f x = some y) : evf M (.comp own elt t s .nil) η S = .ok (.lst (xs.filterMap f)) S1 := by
  simp only [evf, h, Res.bind]
  rw [compL_ok f hl xs [] (by rw [List.length_nil]; omega) (by simp only [nrs]) hn fun x hx acc ha => by
    obtain ⟨η1, y, e1, e2, e3⟩ := hs x hx acc ha
    simp only [e1, evAll, if_true, e2, e3, Res.bind]]
  rw [List.nil_append]
theorem ev_compI (lk : List Lk) (xs : List Vl) (f : Vl → Option Vl) (h : evS M s η S = .ok (lk, xs) S1) (hl : lockd lk S1) (hz : xs.length ≤ 1000000) (hn : ∀ x ∈ xs, ∀ y, f x = some y → y.nr = true)
    (hs : ∀ x ∈ xs, ∀ acc : List Vl, nrs acc = true → ∃ η1, bindT t x (wipeG η own) = some η1 ∧ ((ev M test η1 (S1 ++ [.lst acc]) = .ok (.bl false) (S1 ++ [.lst acc]) ∧ f x = none) ∨ (ev M test η1 (S1 ++ [.lst acc]) = .ok (.bl true) (S1 ++ [.lst acc]) ∧ ∃ y, ev M elt η1 (S1 ++ [.lst acc]) = .ok y (S1 ++ [.lst acc]) ∧ f x = some y))) :
    evf M (.comp own elt t s (.cons test .nil)) η S = .ok (.lst (xs.filterMap f)) S1 := by
  simp only [evf, h, Res.bind]
  rw [compL_ok f hl xs [] (by rw [List.length_nil]; omega) (by simp only [nrs]) hn fun x hx acc ha => by
    obtain ⟨η1, e1, ⟨e2, e3⟩ | ⟨e2, y, e3, e4⟩⟩ := hs x hx acc ha
    · simp only [e1, evAll, e2, e3, Res.bind, Bool.false_eq_true, if_false]
    · simp only [e1, evAll, e2, e3, e4, Res.bind, if_true]]
  rw [List.nil_append]
theorem ev_sq {e : E} {v : Vl} (h : ev M e η S = .ok v S1) (hv : walkS S1 v = some (lk, xs)) : evS M (.sq e) η S = .ok (lk, xs) S1 := by simp only [evS, h, Res.bind, ofO, hv]
theorem ev_chars {e : E} {z : Str} (h : ev M e η S = .ok (.str z) S1) : evS M (.chars e) η S = .ok ([], charsL z) S1 := by simp only [evS, h, Res.bind]
end
/-! ### expressions, one by one -/
section
variable {M : Mach} {a b c e : E} {es : Es} {f : F} {op : Operator} {co p q : CmpOp} {η : Sg} {S S1 S2 S3 : Hs} {x y z v : Vl} {d : Bool} {o : Ob} {xs ys : List Vl} {i : Nat} {g m cl : Str} {lo hi : Oe} {l h : Option Int} {r : Rv} {n : Nat}
theorem v_var (hx : η[i]? = some (some x)) : ev M (.var i) η S = .ok x S := by simp only [ev, hx]
theorem v_cst : ev M (.cst v) η S = .ok v S := by simp only [ev]
theorem v_bin (ha : ev M a η S = .ok x S1) (hb : ev M b η S1 = .ok y S2) (ho : binop op x y = some z) : ev M (.bin op a b) η S = .ok z S2 := by simp only [ev, ha, hb, Res.bind, ofO, ho]
theorem v_cmp (ha : ev M a η S = .ok x S1) (hb : ev M b η S1 = .ok y S2) (ho : cmpop co S2 x y = some d) : ev M (.cmp co a b) η S = .ok (.bl d) S2 := by simp only [ev, ha, hb, Res.bind, ofO, ho]
theorem v_idx (ha : ev M a η S = .ok x S1) (hb : ev M b η S1 = .ok y S2) (ho : idxop S2 x y = some z) : ev M (.idx a b) η S = .ok z S2 := by simp only [ev, ha, hb, Res.bind, ofO, ho]
theorem o_none : evo M .none η S = .ok none S := by simp only [evo]
theorem o_some {j : Int} (ha : ev M a η S = .ok (.int j) S1) : evo M (.some a) η S = .ok (some j) S1 := by simp only [evo, ha, Res.bind]
theorem v_slt (ha : ev M a η S = .ok x S1) (hl : evo M lo η S1 = .ok l S2) (hh : evo M hi η S2 = .ok h S3) (ho : sltop x l h = some z) : ev M (.slt a lo hi) η S = .ok z S3 := by simp only [ev, ha, hl, hh, Res.bind, ofO, ho]
theorem vs_nil : evs M .nil η S = .ok [] S := by simp only [evs]
theorem vs_cons (ha : ev M a η S = .ok x S1) (hs : evs M es η S1 = .ok xs S2) : evs M (.cons a es) η S = .ok (x :: xs) S2 := by simp only [evs, ha, hs, Res.bind]
theorem v_tup (hs : evs M es η S = .ok xs S1) (hz : xs.length ≤ 1000000) : ev M (.tup es) η S = .ok (.tup xs) S1 := by
  have : xs.length ≤ sizeLine := Nat.le_trans hz (by decide)
  simp only [ev, hs, Res.bind, if_pos this]
theorem v_inl (hf : evf M f η S = .ok o S1) : ev M (.inl f) η S = .ok o.inl S1 := by simp only [ev, hf, Res.bind]
theorem v_alc (hf : evf M f η S = .ok o S1) : ev M (.alc f) η S = .ok (.ref S1.length) (S1 ++ [o]) := by simp only [ev, hf, Res.bind]
theorem v_call (hs : evs M es η S = .ok xs S1) (hc : M.cal m xs S1 = .ok r S2) : ev M (.call m es) η S = .ok r.v S2 := by simp only [ev, hs, Res.bind, calV, hc]
theorem v_mcl (ha : ev M a η S = .ok x S1) (hm : hasM S1 x cl m = true) (hs : evs M es η S1 = .ok xs S2) (hc : M.cal (dot cl m) (x :: xs) S2 = .ok r S3) : ev M (.mcl cl m a es) η S = .ok r.v S3 := by simp only [ev, ha, hm, hs, Res.bind, calV, hc, if_true]
theorem v_b1 {u : B1} (ha : ev M a η S = .ok x S1) (ho : b1op u S1 x = some z) : ev M (.b1 u a) η S = .ok z S1 := by simp only [ev, ha, Res.bind, ofO, ho]
theorem v_bnot (ha : ev M a η S = .ok (.bl d) S1) : ev M (.bnot a) η S = .ok (.bl (!d)) S1 := by simp only [ev, ha, Res.bind]
theorem v_ite1 (hc : ev M c η S = .ok (.bl true) S1) (ha : ev M a η S1 = .ok x S2) : ev M (.ite c a b) η S = .ok x S2 := by simp only [ev, hc, Res.bind, ha]
theorem v_ite0 (hc : ev M c η S = .ok (.bl false) S1) (ha : ev M b η S1 = .ok x S2) : ev M (.ite c a b) η S = .ok x S2 := by simp only [ev, hc, Res.bind, ha]
theorem v_and1 (ha : ev M a η S = .ok (.bl true) S1) (hb : ev M b η S1 = .ok x S2) : ev M (.band a b) η S = .ok x S2 := by simp only [ev, ha, hb, Res.bind]
theorem v_and0 (ha : ev M a η S = .ok (.bl false) S1) : ev M (.band a b) η S = .ok (.bl false) S1 := by simp only [ev, ha, Res.bind]
theorem v_or0 (ha : ev M a η S = .ok (.bl false) S1) (hb : ev M b η S1 = .ok x S2) : ev M (.bor a b) η S = .ok x S2 := by simp only [ev, ha, hb, Res.bind]
theorem v_fld {ns : List Str} (ha : ev M a η S = .ok x S1) (hi : insOf S1 x = some (cl, ns, xs)) (ho : lookG ns xs m = some z) : ev M (.fld a m) η S = .ok z S1 := by simp only [ev, ha, Res.bind, ofO, hi, ho]
theorem v_join {s : Str} (ha : ev M a η S = .ok (.str s) S1) (hb : ev M b η S1 = .ok y S2) (ho : tmop .join S2 s y = some z) : ev M (.tm .join a b) η S = .ok z S2 := by simp only [ev, ha, hb, Res.bind, ofO, ho]
theorem v_mut {u : Mm} {k : Nat} (ha : ev M a η S = .ok x S1) (hl : lstAt S1 x = some k) (hs : evs M es η S1 = .ok xs S2) (hk : S2[k]? = some (.lst ys)) {zs : List Vl} (ho : mutop u ys xs = some (v, zs)) : ev M (.mut u a es) η S = .ok v (S2.set k (.lst zs)) := by simp only [ev, ha, hl, hs, Res.bind, hk, ho]
theorem v_isD (ha : ev M a η S = .ok x S1) (ho : dctOf S1 x = none) : ev M (.isD a) η S = .ok (.bl false) S1 := by simp only [ev, ha, Res.bind, ho, Option.isSome_none]
theorem v_olen {k : Nat} (ha : ev M a η S = .ok x S1) (hm : hasM S1 x cl "__len__" = true) (hc : M.cal (dot cl "__len__") [x] S1 = .ok (.val (.int k)) S2) (hk : k ≤ 1000000) : ev M (.olen cl a) η S = .ok (.int k) S2 := by
  simp only [ev, ha, hm, Res.bind, calV, hc, if_true, noX, Rv.v]
  rw [if_pos ⟨by omega, by omega⟩]
theorem v_oeq {ng : Bool} (ha : ev M a η S = .ok x S1) (hb : ev M b η S1 = .ok y S2) (hm : hasM S2 x cl "__eq__" = true) (hy : eqY S2 cl y = true) (hc : M.cal (dot cl "__eq__") [x, y] S2 = .ok (.val (.bl d)) S3) : ev M (.oeq cl ng a b) η S = .ok (.bl (if ng then !d else d)) S3 := by
  simp only [ev, ha, hb, hm, hy, Res.bind, calV, hc, Bool.and_self, if_true, noX, Rv.v]
theorem f_lst (hs : evs M es η S = .ok xs S1) (hz : xs.length ≤ 1000000) : evf M (.lst es) η S = .ok (.lst xs) S1 := by
  have : xs.length ≤ sizeLine := Nat.le_trans hz (by decide)
  simp only [evf, hs, Res.bind, if_pos this]
theorem f_cat (ha : ev M a η S = .ok x S1) (hb : ev M b η S1 = .ok y S2) (hx : lstOf S2 x = some xs) (hy : lstOf S2 y = some ys) (hz : xs.length + ys.length ≤ 1000000) : evf M (.cat a b) η S = .ok (.lst (xs ++ ys)) S2 := by
  have : xs.length + ys.length ≤ sizeLine := Nat.le_trans hz (by decide)
  simp only [evf, ha, hb, Res.bind, hx, hy, if_pos this]
theorem f_slc (ha : ev M a η S = .ok x S1) (hl : evo M lo η S1 = .ok l S2) (hh : evo M hi η S2 = .ok h S3) (hx : lstOf S3 x = some xs) : evf M (.slc a lo hi) η S = .ok (.lst (cutG xs l h)) S3 := by simp only [evf, ha, hl, hh, Res.bind, hx]
theorem f_cpy (ha : ev M a η S = .ok x S1) (hx : seqOf S1 x = some xs) : evf M (.cpy a) η S = .ok (.lst xs) S1 := by simp only [evf, ha, Res.bind, hx]
theorem f_srt (ha : ev M a η S = .ok x S1) (hx : srtop S1 x = some xs) : evf M (.srt a) η S = .ok (.lst xs) S1 := by simp only [evf, ha, Res.bind, hx]
theorem f_sset {ws : List Str} (ha : ev M a η S = .ok x S1) (hx : (lstOf S1 x).bind allS = some ws) (hz : ws.length < 64) : evf M (.sset a) η S = .ok (.lst ((sortStr (dedupS ws)).map .str)) S1 := by simp only [evf, ha, Res.bind, hx, if_pos hz]
theorem f_call (hs : evs M es η S = .ok xs S1) (hc : M.cal m xs S1 = .ok (.frs o) S2) : evf M (.call m es) η S = .ok o S2 := by simp only [evf, hs, Res.bind, hc]
theorem f_mcl (ha : ev M a η S = .ok x S1) (hm : hasM S1 x cl m = true) (hs : evs M es η S1 = .ok xs S2) (hc : M.cal (dot cl m) (x :: xs) S2 = .ok (.frs o) S3) : evf M (.mcl cl m a es) η S = .ok o S3 := by simp only [evf, ha, hm, hs, Res.bind, hc, if_true]
theorem f_rep {k : Nat} {ph : Int} (ha : ev M a η S = .ok x S1) (hb : ev M b η S1 = .ok (.int ph) S2) (hx : lstAt S2 x = some k) (hl : lstOf S2 x = some xs) (h0 : 0 ≤ ph) (h1 : ph ≤ 1000) (hz : xs.length ≤ 1000) : evf M (.rep a b) η S = .ok (.lst (List.replicate ph.toNat xs).flatten) S2 := by
  simp only [evf, ha, hb, Res.bind, hx, hl]
  rw [if_pos ⟨h0, by omega, Nat.le_trans (Nat.mul_le_mul hz (show ph.toNat ≤ 1000 by omega)) (by decide)⟩]
end
/-- a comprehension whose items are not told apart -/
theorem compL_ex {step : Vl → Hs → Res (Option Vl)} {lk : List Lk} {S : Hs} (P : Vl → Prop) (hl : lockd lk S) (hP : ∀ y, P y → y.nr = true) : ∀ (xs acc : List Vl), acc.length + xs.length ≤ 1000000 → nrs acc = true →
    (∀ x ∈ xs, ∀ acc : List Vl, nrs acc = true → ∃ y, P y ∧ step x (S ++ [.lst acc]) = .ok (some y) (S ++ [.lst acc])) → ∃ ys : List Vl, ys.length = xs.length ∧ (∀ y ∈ ys, P y) ∧ compL step lk xs acc S = .ok (acc ++ ys) S
  | [], acc, _, _, _ => ⟨[], rfl, fun y h => by simp at h, by unfold compL; rw [if_pos hl]; simp⟩
  | x :: xs, acc, hz, ha, hs => by
    have hlt : acc.length < sizeLine := by
      have : (1000000 : Nat) < sizeLine := by decide
      rw [List.length_cons] at hz; omega
    obtain ⟨y, py, e⟩ := hs x (List.mem_cons_self ..) acc ha
    rw [List.length_cons] at hz
    obtain ⟨ys, l, p, e2⟩ := compL_ex P hl hP xs (acc ++ [y]) (by simp; omega) (nrs_append ha (by simp only [nrs, hP y py, Bool.and_self])) fun z h => hs z (List.mem_cons_of_mem _ h)
    refine ⟨y :: ys, by simp [l], fun z hz => ?_, ?_⟩
    · rcases List.mem_cons.mp hz with rfl | hz
      · exact py
      · exact p z hz
    · unfold compL
      rw [if_pos hl, e]
      simp only
      rw [if_pos ⟨trivial, hlt⟩, if_pos (nr_lim _ _ (hP y py)), e2]
      simp
theorem ev_compE {M : Mach} {own : List Nat} {elt : E} {t : Tg} {s : Src} {η : Sg} {S S1 : Hs} (lk : List Lk) (xs : List Vl) (P : Vl → Prop) (h : evS M s η S = .ok (lk, xs) S1) (hl : lockd lk S1) (hz : xs.length ≤ 1000000) (hP : ∀ y, P y → y.nr = true)
    (hs : ∀ x ∈ xs, ∀ acc : List Vl, nrs acc = true → ∃ η1 y, P y ∧ bindT t x (wipeG η own) = some η1 ∧ ev M elt η1 (S1 ++ [.lst acc]) = .ok y (S1 ++ [.lst acc])) : ∃ ys : List Vl, ys.length = xs.length ∧ (∀ y ∈ ys, P y) ∧ evf M (.comp own elt t s .nil) η S = .ok (.lst ys) S1 := by
  have key : ∀ F : Vl → Hs → Res (Option Vl), (∀ x ∈ xs, ∀ acc : List Vl, nrs acc = true → ∃ y, P y ∧ F x (S1 ++ [.lst acc]) = .ok (some y) (S1 ++ [.lst acc])) → ∃ ys : List Vl, ys.length = xs.length ∧ (∀ y ∈ ys, P y) ∧ (compL F lk xs [] S1).bind (fun ys S2 => Res.ok (Ob.lst ys) S2) = .ok (.lst ys) S1 := fun F hF => by
    obtain ⟨ys, l, p, e⟩ := compL_ex P hl hP xs [] (by rw [List.length_nil]; omega) (by simp only [nrs]) hF
    exact ⟨ys, l, p, by rw [e, List.nil_append]; rfl⟩
  simp only [evf, h]
  exact key _ fun x hx acc ha => by
    obtain ⟨η1, y, py, e1, e2⟩ := hs x hx acc ha
    exact ⟨y, py, by simp only [e1, evAll, Res.bind, if_true, e2]⟩
end Oz
set_option Elab.async false
set_option linter.all false
set_option maxRecDepth 100000
set_option maxHeartbeats 4000000
set_option autoImplicit false
/-! Oz: rules for sorted pairs, sorted dicts, dict(pairs), stores, f-strings, min, repr. -/
namespace Oz
open PySem L2 PyProof.Rows PySem.Spec

section
variable {G : Glb} {ρ : List Addr} {H : Hp} {S : Hs}
/-! ### sorted(pairs) -/
theorem allP_map : ∀ {xs : List Vl} {zs : List (Str × Vl)}, allP xs = some zs → xs = zs.map prV
  | [], zs, e => by simp only [allP, Option.some.injEq] at e; subst e; rfl
  | x :: xs, zs, e => by
    unfold allP at e
    split at e
    · rename_i h; cases h
    · rename_i z y xs' h
      injection h with h1 h2
      subst h1 h2
      obtain ⟨l, e1, rfl⟩ := Option.map_eq_some_iff.mp e
      rw [allP_map e1]; rfl
    · cases e
/-- pairs with what stands for them -/
def Tri (G : Glb) (ρ : List Addr) (H : Hp) (h : Heap) (e : (Str × Vl) × V × Value) : Prop := VR G ρ H (prV e.1) e.2.1 ∧ RelV e.2.1 e.2.2 ∧ PrIn h e.2.2 e.1.1
theorem tri_of {X : Cx} {pins : List (Addr × Obj)} {σ : L2.St} {s : Shared} (hK : X.K = G.K) (I : Inv X pins σ H s) : ∀ (zs : List (Str × Vl)) (vs : List V) (us : List Value), VRs G ρ H (zs.map prV) vs → Vals vs us →
    ∃ L : List ((Str × Vl) × V × Value), L.map (·.1) = zs ∧ L.map (·.2.1) = vs ∧ L.map (·.2.2) = us ∧ ∀ e ∈ L, Tri G ρ H s.heap e
  | [], vs, us, h, r => by
    simp only [List.map_nil, VRs] at h
    subst h
    cases r
    exact ⟨[], rfl, rfl, rfl, fun e he => by cases he⟩
  | z :: zs, vs, us, h, r => by
    simp only [List.map_cons, VRs] at h
    obtain ⟨v, r', rfl, h1, h2⟩ := h
    cases r with
    | cons rv rr =>
      rename_i u us
      obtain ⟨L, e1, e2, e3, hL⟩ := tri_of hK I zs r' us h2 rr
      refine ⟨(z, v, u) :: L, by simp [e1], by simp [e2], by simp [e3], fun e he => ?_⟩
      rcases List.mem_cons.mp he with he | he
      · subst he
        refine ⟨h1, rv, ?_⟩
        have h1' := h1
        unfold prV at h1
        simp only [VR] at h1
        obtain ⟨a, ws, rfl, hT, hw⟩ := h1
        simp only [VRs, VR] at hw
        obtain ⟨v1, r1, rfl, rfl, v2, r2, rfl, hv2, rfl⟩ := hw
        cases rv
        obtain ⟨its, rvs, ⟨o, ho, hc, n, hd⟩, _⟩ := I.tuple (a := a) (by rw [hK]; exact hT.sq)
        obtain ⟨u1, u2, rfl, ⟨t, rfl⟩, _⟩ := vals2 rvs
        exact ⟨a, o, n, t, u2, rfl, ho, hc, hd⟩
      · exact hL e he
theorem tri_back {h : Heap} : ∀ {L : List ((Str × Vl) × V × Value)}, (∀ e ∈ L, Tri G ρ H h e) → VRs G ρ H ((L.map (·.1)).map prV) (L.map (·.2.1)) ∧ Vals (L.map (·.2.1)) (L.map (·.2.2))
  | [], _ => ⟨VRs.nil, .nil⟩
  | e :: L, hL => by
    obtain ⟨h1, h2⟩ := tri_back (L := L) fun x hx => hL x (List.mem_cons_of_mem _ hx)
    obtain ⟨a, b, c⟩ := hL e List.mem_cons_self
    exact ⟨VRs.cons a h1, .cons b h2⟩
def rSrtp (G : Glb) : List V → Hp → VK → Prop := fun vs H Q => ∃ ρ S a v xs, vs = [v] ∧ Sim G ρ H S ∧ VR G ρ H a v ∧ srtpop S a = some xs ∧ ∀ p ws, H p = none → VRs G ρ H xs ws → Q (.ref p) (upd H p (.lst ws))
theorem cr_srtp {X : Cx} (hK : X.K = G.K) : CallR X (.builtin "sorted") (rSrtp G) := by
  intro pins s σ H vs us Q I r ⟨ρ, S, a, v, xs, ev, s0, hv, e, q⟩
  subst ev
  unfold srtpop at e
  split at e
  · rename_i zs ez
    split at e
    · rename_i hc
      cases e
      obtain ⟨h64, nd⟩ := hc
      obtain ⟨ys, es, ep⟩ := Option.bind_eq_some_iff.mp ez
      have ey := allP_map ep
      subst ey
      obtain ⟨l, ws, rfl, hsq, hws⟩ := seq_of s0 hv es
      rw [Vals.ref1 r]
      have src : ∃ its : List Value, Vals ws its ∧ (s.heap.IsList l its.toArray ∨ IsTup s.heap l its.toArray) ∧ ws.length ≤ sizeLine := by
        rcases hsq with hq | hq
        · obtain ⟨its, rv, pl, hz⟩ := I.list (by rw [hK]; exact hq)
          exact ⟨its, rv, .inl pl.isList, hz⟩
        · obtain ⟨its, rv, pl, hz⟩ := I.tuple (by rw [hK]; exact hq)
          exact ⟨its, rv, .inr pl, hz⟩
      obtain ⟨its, rv, hl, hz⟩ := src
      obtain ⟨L, e1, e2, e3, hL⟩ := tri_of hK I zs ws its hws rv
      have key : ∀ e ∈ L, txAt s.heap e.2.2 = e.1.1 := fun e he => (hL e he).2.2.tx
      have ln : its.length = zs.length := by rw [← e3, ← e1, List.length_map, List.length_map]
      have ndL : (L.map fun e => e.1.1).Nodup := by
        have : (L.map fun e => e.1.1) = zs.map (·.1) := by rw [← e1, List.map_map]; rfl
        rw [this]; exact nd
      have inL : ∀ u ∈ its, ∃ e ∈ L, e.2.2 = u := fun u hu => by rw [← e3] at hu; exact List.mem_map.mp hu
      have tin : ∀ u ∈ its, txAt s.heap u ∈ zs.map (·.1) := fun u hu => by
        obtain ⟨e, he, eu⟩ := inL u hu
        rw [← eu, key e he, ← e1]
        exact List.mem_map.mpr ⟨e.1, List.mem_map.mpr ⟨e, he, rfl⟩, rfl⟩
      have hinj : ∀ u ∈ its, ∀ w ∈ its, txAt s.heap u = txAt s.heap w → u = w := fun u hu w hw h => by
        obtain ⟨e, he, eu⟩ := inL u hu
        obtain ⟨f, hf, ew⟩ := inL w hw
        rw [← eu, ← ew, key e he, key f hf] at h
        rw [← eu, ← ew, mem_key (f := fun e : (Str × Vl) × V × Value => e.1.1) ndL e he f hf h]
      refine sorted_pr (rkS (zs.map (·.1))) hl (by omega) (fun u hu => ?_) hinj (fun u hu w hw => rk_lt nd (tin u hu) (tin w hw)) fun out h1 h2 => ?_
      · obtain ⟨e, he, eu⟩ := inL u hu
        exact ⟨e.1.1, eu ▸ (hL e he).2.2⟩
      · -- the order that comes
        have pw : out.toList.Pairwise fun u w => leS (txAt s.heap u) (txAt s.heap w) := by
          refine List.Pairwise.imp_of_mem (fun {u w} hu hw h => ?_) h2
          have hu' := h1.mem_iff.mp hu
          have hw' := h1.mem_iff.mp hw
          have q := rk_lt nd (tin w hw') (tin u hu')
          rw [leS_iff]
          intro c
          rw [decide_eq_true c] at q
          have := of_decide_eq_true q.symm
          omega
        have ndi : (its.map (txAt s.heap)).Nodup := by
          have : its.map (txAt s.heap) = zs.map (·.1) := by
            rw [← e3, ← e1, List.map_map, List.map_map]
            exact List.map_congr_left fun e he => key e he
          rw [this]; exact nd
        have eo : out.toList = sortBy (txAt s.heap) its := sortBy_uniq ndi h1 pw
        have ek : (fun e : (Str × Vl) × V × Value => txAt s.heap e.2.2) = fun e => txAt s.heap e.2.2 := rfl
        -- the same of the triples
        have es1 : ∀ (M : List ((Str × Vl) × V × Value)), (∀ e ∈ M, e ∈ L) → sortBy (txAt s.heap) (M.map (·.2.2)) = (sortBy (fun e => e.1.1) M).map (·.2.2) := fun M hM => by
          rw [sortBy_map (fun e : (Str × Vl) × V × Value => txAt s.heap e.2.2) (·.2.2) (txAt s.heap) (fun _ => rfl)]
          congr 1
          induction M with
          | nil => rfl
          | cons e M ih =>
            have ih := ih fun x hx => hM x (List.mem_cons_of_mem _ hx)
            simp only [sortBy]
            rw [ih]
            have mm : ∀ x ∈ sortBy (fun e : (Str × Vl) × V × Value => e.1.1) M, x ∈ L := fun x hx => hM x (List.mem_cons_of_mem _ ((sortBy_perm _ M).mem_iff.mp hx))
            have he := key e (hM e List.mem_cons_self)
            generalize sortBy (fun e : (Str × Vl) × V × Value => e.1.1) M = N at mm
            clear ih hM
            induction N with
            | nil => rfl
            | cons x N ih2 =>
              have hx := key x (mm x List.mem_cons_self)
              have ih3 := ih2 fun y hy => mm y (List.mem_cons_of_mem _ hy)
              simp only [insBy, he, hx, ih3]
        have eo2 : out.toList = (sortBy (fun e => e.1.1) L).map (·.2.2) := by rw [eo, ← e3]; exact es1 L fun _ h => h
        have eP : sortP zs = (sortBy (fun e => e.1.1) L).map (·.1) := by
          rw [sortP_by, ← e1]
          exact sortBy_map (fun e : (Str × Vl) × V × Value => e.1.1) (·.1) (·.1) (fun _ => rfl) L
        obtain ⟨b1, b2⟩ := tri_back (L := sortBy (fun e : (Str × Vl) × V × Value => e.1.1) L) fun e he => hL e ((sortBy_perm _ L).mem_iff.mp he)
        rw [← eP] at b1
        rw [← eo2] at b2
        obtain ⟨epc, he'⟩ := PyProof.Rows.sortedAll_at s.heap its out
        have hlen : ((sortBy (fun e : (Str × Vl) × V × Value => e.1.1) L).map (·.2.1)).length ≤ sizeLine := by
          rw [List.length_map, (sortBy_perm _ L).length_eq, ← List.length_map (f := fun e : (Str × Vl) × V × Value => e.2.1), e2]; exact hz
        exact ⟨.ref _, upd H (s.heap.objs.size + 1) (.lst ((sortBy (fun e : (Str × Vl) × V × Value => e.1.1) L).map (·.2.1))), I.laid (t' := s.toks) (fun _ _ => PyProof.Rows.sortedAll_old) (Nat.le_succ _) ⟨hlen, out.toList, epc, b2, he'⟩, rfl, q _ _ (I.hok.fresh (Nat.le_succ _)) b1⟩
    · cases e
  · cases e
end
section
variable {G : Glb} {k n : Nat} {X : Cx} {M : Mach} {W : WX} {a b c e : Expr} {ca cb cc : E} {ces : Es} {p pos apos : Pos}
theorem pf_srtp (g : Good G k X) (hg : Gl X "sorted") (hm : X.mg "sorted" = none) (ha : PE X a (tE G M W ca)) (hs : starEach [a] X.env = [(false, eval a X.env)] := by rfl) (he : starEach [a] X.env = (false, eval a X.env) :: starEach [] X.env := by rfl) (hpl : (backTo pos (starEach [] X.env)).any (·.1) = false := by rfl) : PE X (.Call (.Name "sorted" p) [a] [] pos) (tF G M W (.srtp ca)) :=
  (pe_callB (cr_srtp g.K) hg hm rfl (pa_one1 ha hs) (by decide) (by decide) he hpl).imp fun σ H Q ⟨ρ, η, S, s, r, h⟩ => ⟨ρ, η, S, s, r, by
    simp only [evf] at h
    refine (PR.bind h).mono fun ρ1 H1 x S1 st s1 h1 v hv => ?_
    split at h1
    · rename_i xs ex
      exact ⟨ρ1, S1, x, v, xs, rfl, s1, hv, ex, fun q ws hq hws => okF_new s st s1 h1 hq fun ρ' st' => ⟨_, upd_same, VRs.step st' _ _ hws⟩⟩
    · exact h1.elim⟩
theorem allK_map : ∀ {ks : List Key} {zs : List Str}, allK ks = some zs → ks = zs.map Sum.inr
  | [], zs, e => by simp only [allK, Option.some.injEq] at e; subst e; rfl
  | .inr z :: ks, zs, e => by
    simp only [allK] at e
    obtain ⟨l, e1, rfl⟩ := Option.map_eq_some_iff.mp e
    rw [allK_map e1]; rfl
  | .inl _ :: ks, zs, e => by simp only [allK] at e; cases e
theorem pf_srtd (g : Good G k X) (hg : Gl X "sorted") (hm : X.mg "sorted" = none) (ha : PE X a (tE G M W ca)) (hs : starEach [a] X.env = [(false, eval a X.env)] := by rfl) (he : starEach [a] X.env = (false, eval a X.env) :: starEach [] X.env := by rfl) (hpl : (backTo pos (starEach [] X.env)).any (·.1) = false := by rfl) : PE X (.Call (.Name "sorted" p) [a] [] pos) (tF G M W (.srtd ca)) :=
  (pe_callB (call_sortedD g.calm) hg hm rfl (pa_one1 ha hs) (by decide) (by decide) he hpl).imp fun σ H Q ⟨ρ, η, S, s, r, h⟩ => ⟨ρ, η, S, s, r, by
    simp only [evf] at h
    refine (PR.bind h).mono fun ρ1 H1 x S1 st s1 h1 v hv => ?_
    split at h1
    · rename_i xs ex
      unfold srtdop at ex
      split at ex
      · rename_i ks vs ed
        split at ex
        · rename_i zs ez
          split at ex
          · rename_i h64
            cases ex
            obtain ⟨q, kvs, rfl, g1, g2, _⟩ := dct_of s1 hv ed
            rw [allK_map ez] at g2
            exact ⟨q, kvs, zs, rfl, g1, g2, h64, fun ys p' py sy hq => okF_new s st s1 h1 hq fun ρ' st' => ⟨_, upd_same, by rw [sorted_is py sy]; exact VRs.map_str⟩⟩
          · cases ex
        · cases ex
      · cases ex
    · exact h1.elim⟩
/-! ### dicts written -/
theorem repD_len {k : Key} {y : Vl} : ∀ {ks : List Key} {vs : List Vl}, ks.length = vs.length → (repD k y ks vs).length = vs.length
  | [], [], _ => rfl
  | [], _ :: _, h => by simp at h
  | _ :: _, [], h => by simp at h
  | _ :: ks, _ :: vs, h => by simp only [repD, List.length_cons]; rw [repD_len (by simpa using h)]
theorem repD_map {ρ : List Addr} {H : Hp} {k : Key} {y : Vl} {v : V} (hv : VR G ρ H y v) : ∀ {ks : List Key} {xs : List Vl} {kvs : List (Key × V)}, kvs.map (·.1) = ks → VRs G ρ H xs (kvs.map (·.2)) → VRs G ρ H (repD k y ks xs) ((kvs.map fun kv => if kv.1 = k then (kv.1, v) else kv).map (·.2))
  | [], xs, [], _, h => by
    simp only [List.map_nil] at h ⊢
    cases xs with
    | nil => exact VRs.nil
    | cons x xs => simp [VRs] at h
  | [], _, _ :: _, h, _ => by simp at h
  | _ :: _, _, [], h, _ => by simp at h
  | n :: ns, [], _ :: _, _, h => by simp [VRs] at h
  | n :: ns, x :: xs, (m, w) :: fs, h, q => by
    simp only [List.map_cons, List.cons.injEq] at h
    obtain ⟨rfl, h⟩ := h
    simp only [List.map_cons, VRs] at q
    obtain ⟨v', r, e1, k1, k2⟩ := q
    cases e1
    simp only [repD, List.map_cons]
    refine VRs.cons ?_ (repD_map hv h k2)
    by_cases c : m = k
    · rw [if_pos c, if_pos c]; exact hv
    · rw [if_neg c, if_neg c]; exact k1
theorem putD_ok {ρ : List Addr} {H : Hp} {k : Key} {y : Vl} {v : V} (hv : VR G ρ H y v) {ks : List Key} {xs : List Vl} {kvs : List (Key × V)} (h : kvs.map (·.1) = ks) (q : VRs G ρ H xs (kvs.map (·.2))) :
    (putK kvs k v).map (·.1) = (putD ks xs k y).1 ∧ VRs G ρ H (putD ks xs k y).2 ((putK kvs k v).map (·.2)) := by
  unfold putK putD
  have ea : (ks.any fun j => decide (j = k)) = kvs.any fun kv => decide (kv.1 = k) := by rw [← h, List.any_map]; rfl
  rw [ea]
  by_cases c : (kvs.any fun kv => decide (kv.1 = k)) = true
  · rw [if_pos c, if_pos c]
    refine ⟨?_, repD_map hv h q⟩
    rw [← h, List.map_map]
    refine List.map_congr_left fun kv _ => ?_
    simp only [Function.comp]
    split <;> rfl
  · rw [if_neg c, if_neg c]
    refine ⟨by simp [h], ?_⟩
    rw [List.map_append]
    exact q.append (VRs.cons hv VRs.nil)
theorem mergeD_ok {ρ : List Addr} {H : Hp} : ∀ {ps : List (Key × Vl)} {more : List (Key × V)} {ks : List Key} {xs : List Vl} {kvs : List (Key × V)}, more.map (·.1) = ps.map (·.1) → VRs G ρ H (ps.map (·.2)) (more.map (·.2)) → kvs.map (·.1) = ks → VRs G ρ H xs (kvs.map (·.2)) →
    (mergeK kvs more).map (·.1) = (mergeD ps ks xs).1 ∧ VRs G ρ H (mergeD ps ks xs).2 ((mergeK kvs more).map (·.2))
  | [], [], ks, xs, kvs, _, _, h, q => ⟨by simpa [mergeK, mergeD] using h, by simpa [mergeK, mergeD] using q⟩
  | [], _ :: _, _, _, _, h, _, _, _ => by simp at h
  | _ :: _, [], _, _, _, h, _, _, _ => by simp at h
  | p :: ps, m :: more, ks, xs, kvs, h, q, h2, q2 => by
    simp only [List.map_cons, List.cons.injEq] at h
    obtain ⟨h0, h1⟩ := h
    simp only [List.map_cons, VRs] at q
    obtain ⟨v', r, e1, k1, k2⟩ := q
    cases e1
    obtain ⟨p1, p2⟩ := putD_ok (k := p.1) k1 h2 q2
    have em : mergeK kvs (m :: more) = mergeK (putK kvs p.1 m.2) more := by rw [← h0]; rfl
    rw [em]
    have r := mergeD_ok (ps := ps) (more := more) h1 k2 p1 p2
    simp only [mergeD]
    exact r
def kvV (p : Key × Vl) : Vl := .tup [match p.1 with | .inl i => .int i | .inr z => .str z, p.2]
theorem allKP_map : ∀ {xs : List Vl} {ps : List (Key × Vl)}, allKP xs = some ps → xs = ps.map kvV
  | [], ps, e => by simp only [allKP, Option.some.injEq] at e; subst e; rfl
  | x :: xs, ps, e => by
    unfold allKP at e
    split at e
    · rename_i h; cases h
    · rename_i x' y xs' h
      injection h with h1 h2
      subst h1 h2
      split at e
      · rename_i k' ek
        obtain ⟨l, e1, rfl⟩ := Option.map_eq_some_iff.mp e
        rw [allKP_map e1, List.map_cons]
        congr 1
        cases x' <;> simp only [Vl.key] at ek <;> cases ek <;> rfl
      · cases e
    · cases e
theorem pairs_dct {ρ : List Addr} {H : Hp} : ∀ {ps : List (Key × Vl)} {vs : List V}, VRs G ρ H (ps.map kvV) vs → ∃ (as : List Addr) (kvs : List (Key × V)), vs = as.map V.ref ∧ Paired (fun p kv => SqT G.K H p [kV kv.1, kv.2]) as kvs ∧ kvs.map (·.1) = ps.map (·.1) ∧ VRs G ρ H (ps.map (·.2)) (kvs.map (·.2))
  | [], vs, h => by
    simp only [List.map_nil, VRs] at h
    subst h
    exact ⟨[], [], rfl, .nil, rfl, VRs.nil⟩
  | p :: ps, vs, h => by
    simp only [List.map_cons, VRs] at h
    obtain ⟨v, r, rfl, h1, h2⟩ := h
    obtain ⟨as, kvs, rfl, h3, h4, h5⟩ := pairs_dct h2
    unfold kvV at h1
    simp only [VR] at h1
    obtain ⟨a, ws, rfl, hT, hw⟩ := h1
    simp only [VRs] at hw
    obtain ⟨v1, r1, rfl, hv1, v2, r2, rfl, hv2, rfl⟩ := hw
    have e1 : v1 = kV p.1 := by
      obtain ⟨k', y⟩ := p
      cases k' <;> (simp only [VR] at hv1; subst hv1; rfl)
    subst e1
    exact ⟨a :: as, (p.1, v2) :: kvs, rfl, .cons hT.sq h3, by simp [h4], VRs.cons hv2 h5⟩
theorem pf_dctp (g : Good G k X) (hg : Gl X "dict") (hm : X.mg "dict" = none) (ha : PE X a (tE G M W ca)) (hs : starEach [a] X.env = [(false, eval a X.env)] := by rfl) (he : starEach [a] X.env = (false, eval a X.env) :: starEach [] X.env := by rfl) (hpl : (backTo pos (starEach [] X.env)).any (·.1) = false := by rfl) : PE X (.Call (.Name "dict" p) [a] [] pos) (tF G M W (.dctp ca)) :=
  (pe_callTy (call_dictP g.calm) hg hm (by decide +kernel) (pa_one1 ha hs) (by decide) (by decide) he hpl).imp fun σ H Q ⟨ρ, η, S, s, r, h⟩ => ⟨ρ, η, S, s, r, by
    simp only [evf] at h
    refine (PR.bind h).mono fun ρ1 H1 x S1 st s1 h1 v hv => ?_
    split at h1
    · rename_i o ex
      unfold dctpop at ex
      split at ex
      · rename_i ps ep
        cases ex
        obtain ⟨xs, el, ek⟩ := Option.bind_eq_some_iff.mp ep
        obtain ⟨l, vs, rfl, hl, hvs⟩ := lst_of s1 hv el
        rw [allKP_map ek] at hvs
        obtain ⟨as, kvs, rfl, h3, h4, h5⟩ := pairs_dct hvs
        refine ⟨l, as, kvs, rfl, .inl hl, by rw [g.K]; exact h3, fun q hq => okF_new s st s1 h1 hq fun ρ' st' => ?_⟩
        obtain ⟨m1, m2⟩ := mergeD_ok (ps := ps) (more := kvs) (ks := []) (xs := []) (kvs := []) h4 (VRs.step st' _ _ h5) rfl VRs.nil
        exact ⟨_, upd_same, m1, m2⟩
      · cases ex
    · exact h1.elim⟩
/-! ### o[i] = v -/
def rSetA (G : Glb) : TSet := fun o i v H Q => ∃ ρ S x k y T, Sim G ρ H S ∧ VR G ρ H x o ∧ VR G ρ H k i ∧ VR G ρ H y v ∧ isetS S x k y = some T ∧ ∀ H', Step ρ H ρ H' → Sim G ρ H' T → Q H'
theorem set_any (g : Good G k X) : PSet X (rSetA G) := by
  intro pins s σ H o i v ov iv u Q I ro ri rv ⟨ρ, S, x, kk, y, T, s0, hx, hk, hy, e, q⟩
  unfold isetS at e
  split at e
  · rename_i r
    split at e
    · rename_i ks vs eo
      split at e
      · rename_i k' ek
        split at e
        · rename_i hl
          cases e
          obtain ⟨a', rfl, hr, kvs, g1, g2, g3⟩ := s0.ref hx eo
          have ei : i = kV k' := by
            cases kk <;> simp only [Vl.key] at ek <;> cases ek <;> (simp only [VR] at hk; subst hk; rfl)
          subst ei
          obtain ⟨p1, p2⟩ := putD_ok (k := k') hy g2 g3
          have hl' : kvs.length < sizeLine := by rw [← g2, List.length_map] at hl; exact hl
          obtain ⟨st3, s3⟩ := Sim.put (ho := .dK (putK kvs k' v)) (o2 := .dct (putD ks vs k' y).1 (putD ks vs k' y).2) s0 hr (by
            have st' : Step ρ H ρ (upd H a' (.dK (putK kvs k' v))) := ⟨List.prefix_refl _, fun b o hb hn => by
              rw [upd_ne fun e => hn (by subst e; exact List.mem_of_getElem? hr)]; exact hb, fun b hb => .inl hb⟩
            exact ⟨_, upd_same, p1, VRs.step st' _ _ p2⟩)
          exact set_dict g.u1 pins s σ H _ _ v ov iv u Q I ro ri rv ⟨a', _, rfl, DPut.k g1 hl', q _ st3 s3⟩
        · cases e
      · cases e
    · rename_i xs eo
      split at e
      · rename_i ii
        split at e
        · rename_i j ej
          cases e
          obtain ⟨a', rfl, hr, vs, g1, g2⟩ := s0.ref hx eo
          simp only [VR] at hk
          subst hk
          have hset : ∀ (ρ : List Addr) (H : Hp) (y : Vl) (v : V), VR G ρ H y v → ∀ (xs : List Vl) (vs : List V) (j : Nat), VRs G ρ H xs vs → VRs G ρ H (xs.set j y) (vs.set j v) := fun ρ H y v hy xs vs j h => VRs.of_get (by simp [h.length]) fun i x w e1 e2 => by
            rw [List.getElem?_set] at e1 e2
            split at e1
            · rename_i c
              rw [if_pos c] at e2
              split at e1
              · rename_i c2
                rw [if_pos (by rw [← h.length]; exact c2)] at e2
                cases e1; cases e2; exact hy
              · cases e1
            · rename_i c
              rw [if_neg c] at e2
              exact h.at_ e1 e2
          obtain ⟨st3, s3⟩ := Sim.put (ho := .lst (vs.set j v)) (o2 := .lst (xs.set j y)) s0 hr (by
            have st' : Step ρ H ρ (upd H a' (.lst (vs.set j v))) := ⟨List.prefix_refl _, fun b o hb hn => by
              rw [upd_ne fun e => hn (by subst e; exact List.mem_of_getElem? hr)]; exact hb, fun b hb => .inl hb⟩
            exact ⟨_, upd_same, VRs.step st' _ _ (hset _ _ _ _ hy _ _ j g2)⟩)
          exact set_list pins s σ H _ _ v ov iv u Q I ro ri rv ⟨a', vs, ii, j, rfl, rfl, g1, by rw [← g2.length]; exact ej, q _ st3 s3⟩
        · cases e
      · cases e
    · cases e
  · cases e
theorem ps_iseti (g : Good G k X) {pos2 : Pos} (he : PE X e (tE G M W cc)) (ha : PE X a (tE G M W ca)) (hb : PE X b (tE G M W cb)) (hs : swapsWithSole [.Subscript a b pos2] e pos.line X.env = pure false := by rfl) (hw : swappedStores [.Subscript a b pos2] e X.env = pure none := by rfl)
    (h1 : (assignEach [.Subscript a b pos2] X.env).map (·.2) = [assign (.Subscript a b pos2) X.env] := by rfl)
    (ht : ∀ v, assign (.Subscript a b pos2) X.env v = (do
      let ov ← holding [v] (eval a X.env)
      let iv ← holding [v, ov] (eval b X.env)
      standAt pos2
      holding [v, ov, iv] (setItem ov iv v)
      release [v, ov, iv] []) := by intro _; rfl) : PS X (.Assign [.Subscript a b pos2] e pos) (tC G M W (.iset ca cb cc)) :=
  (ps_asg he (pg_sub ha hb (set_any g) ht) hs hw h1).imp fun D σ H ⟨ρ, η, S, s, r, h⟩ => ⟨ρ, η, S, s, r, by
    simp only [exc1] at h
    refine (PQ.out s r h).mono fun ρ1 H1 y S1 st1 s1 h1 v hv => ⟨ρ1, η, S1, s1, r.step st1, (PQ.out s1 (r.step st1) h1).mono fun ρ2 H2 x S2 st2 s2 h2 w hw => ⟨ρ2, η, S2, s2, (r.step st1).step st2, (PQ.out s2 ((r.step st1).step st2) h2).mono fun ρ3 H3 kk S3 st3 s3 h3 iv hi => ?_⟩⟩
    split at h3
    · rename_i T eT
      exact ⟨ρ3, S3, x, kk, y, T, s3, hw.step st3, hi, (hv.step st2).step st3, eT, fun H' st4 s4 => h3 ρ3 H' σ st4 s4 ((((r.step st1).step st2).step st3).step st4)⟩
    · exact h3.elim⟩
theorem ps_iset2i (g : Good G k X) {a2 b2 : Expr} {ca2 cb2 : E} {pos1 pos2 ptu : Pos} {kt : Nat} (he : PE X e (tE G M W cc)) (ha : PE X a (tE G M W ca)) (hb : PE X b (tE G M W cb)) (ha2 : PE X a2 (tE G M W ca2)) (hb2 : PE X b2 (tE G M W cb2))
    (hs : swapsWithSole [.Tuple [.Subscript a b pos1, .Subscript a2 b2 pos2] kt ptu] e pos.line X.env = pure false := by rfl) (hw : swappedStores [.Tuple [.Subscript a b pos1, .Subscript a2 b2 pos2] kt ptu] e X.env = pure none := by rfl)
    (h1 : (assignEach [.Tuple [.Subscript a b pos1, .Subscript a2 b2 pos2] kt ptu] X.env).map (·.2) = [assign (.Tuple [.Subscript a b pos1, .Subscript a2 b2 pos2] kt ptu) X.env] := by rfl)
    (e1 : (assignEach [.Subscript a b pos1, .Subscript a2 b2 pos2] X.env).map (·.2) = assign (.Subscript a b pos1) X.env :: (assignEach [.Subscript a2 b2 pos2] X.env).map (·.2) := by rfl)
    (e2 : (assignEach [.Subscript a2 b2 pos2] X.env).map (·.2) = assign (.Subscript a2 b2 pos2) X.env :: (assignEach [] X.env).map (·.2) := by rfl)
    (hn : (assignEach [.Subscript a b pos1, .Subscript a2 b2 pos2] X.env).length = 2 := by rfl) (hst : (assignEach [.Subscript a b pos1, .Subscript a2 b2 pos2] X.env).findIdx? (·.1) = none := by rfl)
    (ht : ∀ v, assign (.Subscript a b pos1) X.env v = (do
      let ov ← holding [v] (eval a X.env)
      let iv ← holding [v, ov] (eval b X.env)
      standAt pos1
      holding [v, ov, iv] (setItem ov iv v)
      release [v, ov, iv] []) := by intro _; rfl)
    (ht2 : ∀ v, assign (.Subscript a2 b2 pos2) X.env v = (do
      let ov ← holding [v] (eval a2 X.env)
      let iv ← holding [v, ov] (eval b2 X.env)
      standAt pos2
      holding [v, ov, iv] (setItem ov iv v)
      release [v, ov, iv] []) := by intro _; rfl) :
    PS X (.Assign [.Tuple [.Subscript a b pos1, .Subscript a2 b2 pos2] kt ptu] e pos) (tC G M W (.iset2 ca cb ca2 cb2 cc)) :=
  (ps_asg he (pg_tup g.calm (pgs_cons (pg_sub ha hb (set_any g) ht) (pgs_cons (pg_sub ha2 hb2 (set_any g) ht2) pgs_nil e2) e1) hn hst) hs hw h1).imp fun D σ H ⟨ρ, η, S, s, r, h⟩ => ⟨ρ, η, S, s, r, by
    simp only [exc1] at h
    refine (PQ.out s r h).mono fun ρ1 H1 y S1 st1 s1 h1 v hv => ?_
    split at h1
    · rename_i y z
      simp only [VR] at hv
      obtain ⟨ad, vs, rfl, hT, hvs⟩ := hv
      simp only [VRs] at hvs
      obtain ⟨v1, r1, rfl, hv1, v2, r2, rfl, hv2, rfl⟩ := hvs
      refine ⟨ad, [v1, v2], rfl, by rw [g.K]; exact hT.sq, rfl, v1, [v2], rfl, ρ1, η, S1, s1, r.step st1, (PQ.out s1 (r.step st1) h1).mono fun ρ2 H2 x S2 st2 s2 h2 w hw => ⟨ρ2, η, S2, s2, (r.step st1).step st2, (PQ.out s2 ((r.step st1).step st2) h2).mono fun ρ3 H3 kk S3 st3 s3 h3 iv hi => ?_⟩⟩
      split at h3
      · rename_i T eT
        refine ⟨ρ3, S3, x, kk, y, T, s3, hw.step st3, hi, (hv1.step st2).step st3, eT, fun H4 st4 s4 => ?_⟩
        have r4 := (((r.step st1).step st2).step st3).step st4
        have h4 := PQ.step s3 st4 s4 h3
        refine ⟨v2, [], rfl, ρ3, η, T, s4, r4, (PQ.out s4 r4 h4).mono fun ρ5 H5 x2 S5 st5 s5 h5 w2 hw2 => ⟨ρ5, η, S5, s5, r4.step st5, (PQ.out s5 (r4.step st5) h5).mono fun ρ6 H6 k2 S6 st6 s6 h6 iv2 hi2 => ?_⟩⟩
        split at h6
        · rename_i T2 eT2
          refine ⟨ρ6, S6, x2, k2, z, T2, s6, hw2.step st6, hi2, ((((hv2.step st2).step st3).step st4).step st5).step st6, eT2, fun H7 st7 s7 => ⟨rfl, ?_⟩⟩
          exact h6 ρ6 H7 σ st7 s7 (((r4.step st5).step st6).step st7)
        · exact h6.elim
      · exact h3.elim
    · exact h1.elim⟩
end
end Oz
set_option Elab.async false
set_option linter.all false
set_option maxRecDepth 100000
set_option maxHeartbeats 4000000
set_option autoImplicit false
/-! Oz: rules for displays by keys, f-strings, min, repr, enumerate from a start, dict comprehensions, items. -/
namespace Oz
open PySem L2 PyProof.Rows PySem.Spec

section
variable {G : Glb} {k n : Nat} {X : Cx} {M : Mach} {W : WX} {a b c e : Expr} {ca cb cc : E} {ces : Es} {p pos apos : Pos} {x : Str}
/-- a number of the module as a key -/
theorem xkey {i : Int} {u : Value} {v : V} (hm : X.mg x = some u) (r : RelV v u) (hz : ∀ ρ H, VR G ρ H (.int i) v) (hg : Gl X x := by rfl) (hd : (x == ("__debug__" : Str)) = false := by decide) : PE X (.Name x pos) (L2.tC (.int i)) := by
  have e := hz [] fun _ => none
  simp only [VR] at e
  subst e
  exact pe_glob hg hm r hd
/-! ### {k: v, ..} -/
def disK (G : Glb) (M : Mach) (W : WX) : List Key → Es → List (TE × TE)
  | z :: zs, .cons e es => (L2.tC (kV z), tE G M W e) :: disK G M W zs es
  | _, _ => []
theorem disK_run : ∀ (zs : List Key) (es : Es) (ρ : List Addr) (η : Sg) (S : Hs) (σ : L2.St) (H : Hp) (Q : List (V × V) → Hp → Prop), zs.length = es.len → Sim G ρ H S → ER G ρ H η σ →
    PR G W σ ρ H (evs M es η S) (fun ρ' H' xs S' => ∀ vs, VRs G ρ' H' xs vs → Q ((zs.map kV).zip vs) H') → tPairs (disK G M W zs es) σ H Q
  | [], .nil, ρ, η, S, σ, H, Q, _, s, _, h => by
    simp only [evs] at h
    exact h.here s [] VRs.nil
  | [], .cons _ _, _, _, _, _, _, _, hl, _, _, _ => by simp [Es.len] at hl
  | _ :: _, .nil, _, _, _, _, _, _, hl, _, _, _ => by simp [Es.len] at hl
  | z :: zs, .cons e es, ρ, η, S, σ, H, Q, hl, s, r, h => by
    simp only [evs] at h
    refine ⟨ρ, η, S, s, r, (PR.bind h).mono fun ρ1 H1 x S1 st1 s1 h1 v hv => ?_⟩
    refine disK_run zs es ρ1 η S1 σ H1 _ (by simpa [Es.len] using hl) s1 (r.step st1) ((PR.bind h1).mono fun ρ2 H2 xs S2 st2 s2 h2 vs hvs => ?_)
    exact (h2.here s2) _ (VRs.cons (hv.step st2) hvs)
theorem pf_dspk (g : Good G k X) {zs : List Key} {ces : Es} {keys : List (Option Expr)} {values : List Expr} (h : PPs X pos keys values (disK G M W zs ces)) (hz : zs.length = ces.len) (hall : keys.all (·.isSome) = true) (hl : keys.length = values.length) (h0 : keys ≠ []) (h15 : keys.length ≤ 15) : PE X (.Dict keys values pos) (tF G M W (.dspk zs ces)) := (pe_disp h hall hl h0 h15).imp fun σ H Q ⟨ρ, η, S, s, r, h⟩ p hp => by
  simp only [evf] at h
  have sn : Sim G (ρ ++ [p]) (upd H p (.dK [])) (S ++ [.dct [] []]) := s.new hp ⟨[], upd_same, rfl, VRs.nil⟩
  have stn : Step ρ H (ρ ++ [p]) (upd H p (.dK [])) := (stepSame (same_new hp)).one hp
  refine disK_run zs ces (ρ ++ [p]) η (S ++ [.dct [] []]) σ _ _ hz sn (r.step stn) ?_
  cases e : evs M ces η (S ++ [.dct [] []]) with
  | bad => rw [e] at h; exact h.elim
  | exc x T => rw [e] at h; exact h.elim
  | ok xs T =>
    rw [e] at h
    simp only at h
    split at h
    · rename_i hc
      obtain ⟨rfl, hlim, hnd, hlen, h15'⟩ := hc
      refine fun ρ2 H2 st2 s2 vs hvs => ?_
      have e2 : ρ2 = ρ ++ [p] := pre_eq st2.pre (by rw [s2.len, sn.len])
      subst e2
      have rp : (ρ ++ [p])[S.length]? = some p := by rw [← s.len]; simp
      obtain ⟨kvs0, g1, g2, _⟩ := s2.at_ S.length (.dct [] []) p (by simp) rp
      have g3 : kvs0 = [] := List.map_eq_nil_iff.mp g2
      subst g3
      have lv : zs.length = vs.length := by rw [hlen, hvs.length]
      refine ⟨g1, zs.zip vs, ?_, ?_, ?_⟩
      · rw [List.zip_map_left]
        exact List.map_congr_left fun q _ => rfl
      · rw [List.length_zip]; omega
      · have em : mergeK [] (zs.zip vs) = zs.zip vs := merge_new _ [] (by
          rw [List.map_nil, List.nil_append, List.map_fst_zip (by omega)]
          exact hnd)
        rw [em]
        have pρ : p ∉ ρ := s.free hp
        obtain ⟨st3, s3⟩ := Sim.put (ho := .dK (zs.zip vs)) (o2 := .dct zs xs) s2 rp (by
          have st' : Step (ρ ++ [p]) H2 (ρ ++ [p]) (upd H2 p (.dK (zs.zip vs))) := ⟨List.prefix_refl _, fun b o hb hn => by
            rw [upd_ne fun z => hn (by subst z; simp)]; exact hb, fun b hb => .inl hb⟩
          exact ⟨_, upd_same, List.map_fst_zip (by omega), by rw [List.map_snd_zip (by omega)]; exact VRs.step st' _ _ hvs⟩)
        have eS : (S ++ [Ob.dct [] []]).set S.length (.dct zs xs) = S ++ [.dct zs xs] := by simp
        rw [eS] at s3
        have sc : Sim G ρ (upd H2 p (.dK (zs.zip vs))) S := s3.cut s.len s.lims
        have stc : Step ρ H ρ (upd H2 p (.dK (zs.zip vs))) := ⟨List.prefix_refl _, fun a o hh na => by
          have nap : a ≠ p := fun z => by subst z; rw [hp] at hh; cases hh
          rw [upd_ne nap]
          exact st2.keep a o (by rw [upd_ne nap]; exact hh) (by simp [na, nap]), fun a ha => .inl ha⟩
        have fin := h ρ _ stc sc
        refine fin p hp pρ (OR.less (τ := [p]) (s3.at_ S.length (.dct zs xs) p (by simp) rp) ?_) s3
        rw [s.len]; exact hlim
    · exact h.elim
/-! ### f-strings -/
inductive PF (X : Cx) (G : Glb) (M : Mach) (W : WX) : List Expr → Es → Prop where
  | nil : PF X G M W [] .nil
  | cst {z : Str} {j : Nat} {q : Pos} {es : List Expr} {cs : Es} (r : PF X G M W es cs) : PF X G M W (.Constant (.str z) j q :: es) (.cons (.cst (.str z)) cs)
  | fmt {e : Expr} {c : E} {q : Pos} {es : List Expr} {cs : Es} (h : PE X e (tE G M W c)) (r : PF X G M W es cs) : PF X G M W (.FormattedValue e (-1) none q :: es) (.cons c cs)
noncomputable def fsR (M : Mach) (cs : Es) (acc : Str) (η : Sg) (S : Hs) : Res Str := (noX (evs M cs η S)).bind fun xs S1 => ofO S1 (fsop xs acc)
theorem fsop_cons {x : Vl} {xs : List Vl} {acc out : Str} (h : fsop (x :: xs) acc = some out) : ∃ y, fsPart x = some y ∧ (acc ++ y).length ≤ sizeLine ∧ fsop xs (acc ++ y) = some out := by
  simp only [fsop] at h
  split at h
  · rename_i y e
    split at h
    · rename_i c; exact ⟨y, e, c, h⟩
    · cases h
  · cases h
theorem fsop_of {x : Vl} {xs : List Vl} {acc y : Str} (h : fsPart x = some y) (c : (acc ++ y).length ≤ sizeLine) : fsop (x :: xs) acc = fsop xs (acc ++ y) := by
  simp only [fsop, h, if_pos c]
theorem pf_run {es : List Expr} {cs : Es} (h : PF X G M W es cs) : ∃ ts, PJ X es ts ∧ ∀ (acc : Str) (σ : L2.St) (H : Hp) (Q : Str → Hp → Prop), (∃ ρ η S, Sim G ρ H S ∧ ER G ρ H η σ ∧ PR G W σ ρ H (fsR M cs acc η S) (fun _ H' z _ => Q z H')) → tJs ts acc σ H Q := by
  induction h with
  | nil =>
    refine ⟨[], .nil, fun acc σ H Q ⟨ρ, η, S, s, r, h⟩ => ?_⟩
    simp only [fsR, evs, noX, Res.bind, fsop, ofO] at h
    exact h.here s
  | @cst z j q es cs r ih =>
    obtain ⟨ts, h1, h2⟩ := ih
    refine ⟨L2.tC (.str z) :: ts, .cons pe_str h1, fun acc σ H Q ⟨ρ, η, S, s, r, h⟩ => ?_⟩
    have h : PR G W σ ρ H ((noX ((evs M cs η S).bind fun xs S2 => .ok (.str z :: xs) S2)).bind fun xs S1 => ofO S1 (fsop xs acc)) (fun _ H' z _ => Q z H') := by
      have e0 : evs M (.cons (.cst (.str z)) cs) η S = (evs M cs η S).bind fun xs S2 => .ok (.str z :: xs) S2 := by simp only [evs, ev, Res.bind]
      unfold fsR at h; rw [e0] at h; exact h
    cases e : evs M cs η S with
    | ok xs S' =>
      rw [e] at h
      have h : PR G W σ ρ H (ofO S' (fsop (.str z :: xs) acc)) (fun _ H' z _ => Q z H') := h
      cases eo : fsop (.str z :: xs) acc with
      | none => rw [eo] at h; exact h.elim
      | some out =>
        rw [eo] at h
        obtain ⟨y, e1, c, e2⟩ := fsop_cons eo
        simp only [fsPart] at e1
        split at e1
        · cases e1
          refine ⟨_, rfl, c, h2 _ σ H Q ⟨ρ, η, S, s, r, ?_⟩⟩
          unfold fsR
          rw [e]
          simp only [noX, Res.bind, e2]
          exact h
        · cases e1
    | exc x S' => rw [e] at h; exact h.elim
    | bad => rw [e] at h; exact h.elim
  | @fmt e c q es cs he r ih =>
    obtain ⟨ts, h1, h2⟩ := ih
    refine ⟨tFmt (tE G M W c) :: ts, .cons (pe_fmt he) h1, fun acc σ H Q ⟨ρ, η, S, s, r, h⟩ => ⟨ρ, η, S, s, r, ?_⟩⟩
    simp only [fsR, evs] at h
    cases e1 : ev M c η S with
    | ok x S1 =>
      rw [e1] at h
      simp only [Res.bind] at h
      cases e2 : evs M cs η S1 with
      | ok xs S2 =>
        rw [e2] at h
        simp only [noX] at h
        cases eo : fsop (x :: xs) acc with
        | none => rw [eo] at h; exact h.elim
        | some out =>
          rw [eo] at h
          obtain ⟨y, e3, cl, e4⟩ := fsop_cons eo
          refine fun ρ1 H1 st s1 v hv => ?_
          have rest : tJs ts (acc ++ y) σ H1 Q := h2 _ σ H1 Q ⟨ρ1, η, S1, s1, r.step st, by
            unfold fsR
            rw [e2]
            simp only [noX, Res.bind, e4]
            exact PR.step h st⟩
          unfold fsPart at e3
          split at e3
          · split at e3
            · rename_i hz
              cases e3
              simp only [VR] at hv
              subst hv
              exact .inl ⟨_, rfl, hz, _, rfl, cl, rest⟩
            · cases e3
          · split at e3
            · rename_i hz
              cases e3
              simp only [VR] at hv
              subst hv
              exact .inr ⟨_, rfl, hz, _, rfl, cl, rest⟩
            · cases e3
          · cases e3
      | exc x S' => rw [e2] at h; exact h.elim
      | bad => rw [e2] at h; exact h.elim
    | exc x S' => rw [e1] at h; exact h.elim
    | bad => rw [e1] at h; exact h.elim
theorem pe_fsi {v1 v2 : Expr} {rest : List Expr} (h : PF X G M W (v1 :: v2 :: rest) ces) : PE X (.JoinedStr (v1 :: v2 :: rest) pos) (tE G M W (.fs ces)) := by
  obtain ⟨ts, h1, h2⟩ := pf_run h
  refine (pe_joined h1).imp fun σ H Q ⟨ρ, η, S, s, r, h⟩ => h2 Str.empty σ H _ ⟨ρ, η, S, s, r, ?_⟩
  simp only [ev] at h
  unfold fsR
  cases e : noX (evs M ces η S) with
  | ok xs S1 =>
    rw [e] at h
    simp only [Res.bind] at h ⊢
    cases eo : fsop xs Str.empty with
    | none => rw [eo] at h; exact h.elim
    | some out =>
      rw [eo] at h
      exact fun ρ1 H1 st s1 => h ρ1 H1 st s1 _ (by simp only [VR])
  | exc x S1 =>
    exfalso
    revert e
    cases evs M ces η S <;> simp [noX]
  | bad => rw [e] at h; exact h.elim
/-! ### min(a, b) -/
theorem pe_mni (g : Good G k X) (hg : Gl X "min") (hm : X.mg "min" = none) (ha : PE X a (tE G M W ca)) (hb : PE X b (tE G M W cb)) (hs : starEach [a, b] X.env = (false, eval a X.env) :: starEach [b] X.env := by rfl) (hs2 : starEach [b] X.env = (false, eval b X.env) :: starEach [] X.env := by rfl) (hpl : (backTo pos (starEach [b] X.env)).any (·.1) = false := by rfl) :
    PE X (.Call (.Name "min" p) [a, b] [] pos) (tE G M W (.mn ca cb)) := (pe_callB (call_min2 g.calm) hg hm (by decide +kernel) (pa_cons ha (pa_cons hb pa_nil hs2) hs) (by decide) (by decide) hs hpl).imp fun σ H Q ⟨ρ, η, S, s, r, h⟩ => ⟨ρ, η, S, s, r, by
  simp only [ev] at h
  refine (PR.bind h).mono fun ρ1 H1 x S1 st1 s1 h1 v hv => ⟨ρ1, η, S1, s1, r.step st1, (PR.bind h1).mono fun ρ2 H2 y S2 st2 s2 h2 w hw => ?_⟩
  cases x with
  | int i =>
    cases y with
    | int j =>
      simp only [VR] at hv hw
      subst hv hw
      exact ⟨i, j, rfl, h2.here s2 _ (by simp only [VR])⟩
    | _ => exact h2.elim
  | _ => exact h2.elim⟩
/-! ### repr(o) -/
structure RpM (P : Program) (w : World) (K : PySem.W.Frag) (mg : Str → Option Value) (base : Heap) (G : Glb) (M : Mach) (k : Nat) (c : Str) : Prop where
  ex : ∃ (f : Addr) (fd : FuncData) (ps : List Str), FnG P w K mg base k f fd ps (spI G M 1 (dot c "__repr__")) ∧ PySem.W.findIn K (.ref (G.cl c)) "__repr__" = some (some (.ref f)) ∧ PySem.W.isFn K (.ref f) = true ∧ Binds K fd ps []
def rReprO (G : Glb) (M : Mach) (c : Str) : List V → Hp → VK → Prop := fun xs H Q => ∃ ρ S x v, xs = [v] ∧ Sim G ρ H S ∧ VR G ρ H x v ∧ hasM S x c "__repr__" = true ∧ PR G (fun _ _ _ _ => False) [] ρ H (calV M (dot c "__repr__") [x] S) fun _ H' z _ => ∃ n, z = .str n ∧ Q (.str n) H'
theorem cr_reprO {c : Str} {f : Addr} {fd : FuncData} {ps : List Str} (g : Good G (k + 1) X) (F : FnG X.prog X.w X.K X.mg X.base k f fd ps (spI G M 1 (dot c "__repr__"))) (hs : PySem.W.findIn X.K (.ref (G.cl c)) "__repr__" = some (some (.ref f))) (hf : PySem.W.isFn X.K (.ref f) = true) (hb : Binds X.K fd ps []) : CallR X (.builtin "repr") (rReprO G M c) := by
  intro pins s σ H xs us Q I r h
  obtain ⟨ρ, S, x, v, rfl, s0, hv, hM, hp⟩ := h
  obtain ⟨a', dx, fs, rfl, ea, l⟩ := hasM_of s0 hv hM
  rw [Vals.ref1 r]
  obtain ⟨mA, J, _⟩ := ins_get I.hok ea
  obtain ⟨od, J, _⟩ := J.look
  obtain ⟨m', hF⟩ := I.fr
  refine PySem.W.repr_K g.u1 hF I.ok.mod.kin J hs hf (wpAny_mono (run_in (vs := [.ref a']) (E' := X.xe) (A := X.A.in1) (Q := fun z H' => ∃ n, z = .str n ∧ Q (.str n) H') F g.room.in1 g.grd rfl hb I (.cons rfl .nil) ⟨rfl, ρ, S, [x], s0, VRs.cons hv VRs.nil, ?_⟩) (fun u s1 ⟨z, H1, I1, rz, n, ez, q⟩ => ?_) fun _ _ z => z)
  · exact calV_ok s0 hp fun ρ' H' x S' v st s' ⟨n, e, q⟩ hv => by
      subst e
      simp only [VR] at hv
      exact ⟨n, hv, q⟩
  · subst ez
    obtain ⟨t, rfl⟩ := rz
    exact ⟨.str n, H1, I1, ⟨_, rfl⟩, q⟩
theorem rp {c : Str} (g : Good G (k + 1) X) (cm : RpM X.prog X.w X.K X.mg X.base G M k c) (hm : X.mg "repr" = none) (ha : PE X a (tE G M W ca)) (hg : Gl X "repr" := by rfl) (hs1 : starEach [a] X.env = [(false, eval a X.env)] := by rfl) (he : starEach [a] X.env = (false, eval a X.env) :: starEach [] X.env := by rfl) (hpl : (backTo pos (starEach [] X.env)).any (·.1) = false := by rfl) :
    PE X (.Call (.Name "repr" p) [a] [] pos) (tE G M W (.orepr c ca)) := by
  obtain ⟨f, fd, ps, F, hs, hf, hb⟩ := cm.ex
  refine (pe_callB (cr_reprO g F hs hf hb) hg hm (by decide +kernel) (pa_one1 ha hs1) (by decide) (by decide) he hpl).imp fun σ H Q ⟨ρ, η, S, s, r, h⟩ => ⟨ρ, η, S, s, r, ?_⟩
  simp only [ev] at h
  refine (PR.bind h).mono fun ρ1 H1 x S1 st1 s1 h1 v hv => ?_
  split at h1
  · rename_i hM
    refine ⟨ρ1, S1, x, v, rfl, s1, hv, hM, noX_ok ((PR.bind h1).mono fun ρ2 H2 z S2 st2 s2 h2 => ?_)⟩
    split at h2
    · exact ⟨_, rfl, h2.here s2 _ (by simp only [VR])⟩
    · exact h2.elim
  · exact h1.elim
/-! ### enumerate(x, start=k) -/
theorem evalArgs_typeKw {pos : Pos} {T : String} {e : Expr} {rest : List Expr} {kws : List Keyword} {env : Env} {Mo : Model} {A : Around} {E : Value → Shared → Prop} {s : Shared} {Q : Value → Shared → Prop}
    (h : wpAny Mo A (spliced (backTo pos (starEach (e :: rest) env))) (fun vs s₁ => wpAny Mo A (evalAll ((backToKw pos (keywordEach kws env)).map (·.2)))
      (fun kvs s₂ => wpAny Mo A (call (.type T) vs (((backToKw pos (keywordEach kws env)).filterMap (·.1)).zip kvs)) Q E s₂) E s₁) E s)
    (he : backTo pos (starEach (e :: rest) env) = (false, eval e env) :: backTo pos (starEach rest env) := by rfl)
    (hplain : (backTo pos (starEach (e :: rest) env)).any (·.1) = false := by rfl)
    (hall : (backToKw pos (keywordEach kws env)).all (·.1.isSome) = true := by rfl)
    (hkw : (backToKw pos (keywordEach kws env)).any (·.1.isNone) = false := by rfl) :
    wpAny Mo A (callWith pos (.type T) [] (backTo pos (starEach (e :: rest) env)) (backToKw pos (keywordEach kws env))) Q E s := by
  have h' : wpAny Mo A (evalArgs (.type T) true (backTo pos (starEach (e :: rest) env)) (backToKw pos (keywordEach kws env))) (fun a s₁ => wpAny Mo A (call (.type T) ([] ++ a.pos) a.kw) Q E s₁) E s := by
    rw [he] at h ⊢
    exact evalArgs_kwB hall h
  unfold callWith
  refine wpAny_bind (wpAny_holding (wpAny_mono h' (fun a s₁ h₁ => wpAny_bind (wpAny_standAt ?_)) fun _ _ x => x))
  simp only [hplain, hkw, Bool.or_false]
  refine wpAny_bind (wpAny_pure ?_)
  exact wpAny_bind (wpAny_mono h₁ (fun r s₂ hr => wpAny_bind (wpAny_holding (wpAny_point (wpAny_pure hr)))) fun _ _ x => x)
def iEnumK (K : PySem.W.Frag) (k0 : Int) (ta : TA) : TI := fun σ H R => ta σ H fun xs H1 => ∃ q vs, xs = [Kq.v q] ∧ q.cur K H1 vs ∧ R (Ite2 K k0 q) H1
theorem pi_enumK {e : Expr} {ta : TA} {tpos kp cp : Pos} {elts : List Expr} {kk jj : Nat} {k0 : Int} (hk0 : -(2 ^ 63) ≤ k0) (hk1 : k0 < 2 ^ 63) (hg : Gl X "enumerate") (hm : X.mg "enumerate" = none) (ha : PA X [e] ta)
    (he : backTo pos (starEach [e] X.env) = (false, eval e X.env) :: backTo pos (starEach [] X.env) := by rfl) (hpl : (backTo pos (starEach [e] X.env)).any (·.1) = false := by rfl)
    (hall : (backToKw pos (keywordEach [⟨some "start", .Constant (.int k0) jj cp, kp⟩] X.env)).all (·.1.isSome) = true := by rfl) (hnone : (backToKw pos (keywordEach [⟨some "start", .Constant (.int k0) jj cp, kp⟩] X.env)).any (·.1.isNone) = false := by rfl) (hks : (backToKw pos (keywordEach [⟨some "start", .Constant (.int k0) jj cp, kp⟩] X.env)).filterMap (·.1) = [Str.ofString "start"] := by rfl) :
    PI X (.Tuple elts kk tpos) (.Call (.Name "enumerate" p) [e] [⟨some "start", .Constant (.int k0) jj cp, kp⟩] pos) (iEnumK X.K k0 ta) := by
  refine ⟨fun pins s σ H R I h => ?_⟩
  have hk : PK X [⟨some "start", .Constant (.int k0) jj cp, kp⟩] (tCons (L2.tC (.int k0)) tNil) := pk_cons pe_int pk_nil
  refine wpAny_Call_Name_kw (ld_blt I hg hm boot_enumerate ?_)
  refine evalArgs_typeKw (thn (ha.run pos pins s σ H _ I h) fun us s1 ⟨xs, H1, I1, r1, q1⟩ => thn (hk.run pos pins s1 σ H1 (fun zs H2 => zs = [.int k0] ∧ H2 = H1) I1 ⟨rfl, rfl⟩) fun ws s2 ⟨zs, H2, I2, r2, ez, eH⟩ => ?_) he hpl hall hnone
  subst ez eH
  rw [hks]
  obtain ⟨q, vs, ex, c1, hR⟩ := q1
  subst ex
  obtain ⟨u1, rfl, t, rfl⟩ := vals1 r2
  obtain ⟨u, rfl, ru⟩ := vals1 r1
  obtain ⟨o1, K1, B1, k1, l1, a1⟩ := Kq.begins I2 c1 ru
  exact enum_begins_start B1 k1 hk0 hk1 fun h' he' g1 hsz hk' => pie_enum2 I2 c1 l1 a1 he' g1 hk' hR
theorem pi_enmKi (g : Good G k X) {tpos kp cp : Pos} {elts : List Expr} {kk jj : Nat} {k0 : Int} (hk0 : -(2 ^ 63) ≤ k0) (hk1 : k0 < 2 ^ 63) (hg : Gl X "enumerate") (hm : X.mg "enumerate" = none) (ha : PA X [a] (tA G M W (.cons ca .nil)))
    (he : backTo pos (starEach [a] X.env) = (false, eval a X.env) :: backTo pos (starEach [] X.env) := by rfl) (hpl : (backTo pos (starEach [a] X.env)).any (·.1) = false := by rfl)
    (hall : (backToKw pos (keywordEach [⟨some "start", .Constant (.int k0) jj cp, kp⟩] X.env)).all (·.1.isSome) = true := by rfl) (hnone : (backToKw pos (keywordEach [⟨some "start", .Constant (.int k0) jj cp, kp⟩] X.env)).any (·.1.isNone) = false := by rfl) (hks : (backToKw pos (keywordEach [⟨some "start", .Constant (.int k0) jj cp, kp⟩] X.env)).filterMap (·.1) = [Str.ofString "start"] := by rfl) :
    PI X (.Tuple elts kk tpos) (.Call (.Name "enumerate" p) [a] [⟨some "start", .Constant (.int k0) jj cp, kp⟩] pos) (tS G M W (.enm ca k0)) := (pi_enumK hk0 hk1 hg hm ha he hpl hall hnone hks).imp fun σ H R ⟨ρ, η, S, s, r, h⟩ => ⟨ρ, η, S, s, r, by
  simp only [evS] at h
  rw [evs1]
  refine PR.re1 h fun ρ1 H1 x S1 st s1 h1 vs hv => ?_
  simp only [VRs] at hv
  obtain ⟨v, r, rfl, hv1, rfl⟩ := hv
  obtain ⟨⟨l1, xs⟩, e1, h2⟩ := (PR.bind h1).ofO
  obtain ⟨q, rfl, ⟨vs, c1⟩, w1⟩ := walk_of s1 hv1 e1
  rw [g.K]; exact ⟨q, vs, rfl, c1, (h2.here s1).here s1 _ (JW.enm w1)⟩⟩
end
end Oz
set_option Elab.async false
set_option linter.all false
set_option maxRecDepth 100000
set_option maxHeartbeats 4000000
set_option autoImplicit false
/-! Oz: dict comprehensions, comprehensions over items. -/
namespace Oz
open PySem L2 PyProof.Rows PySem.Spec

section
variable {G : Glb} {M : Mach} {W : WX} {X : Cx} {k : Nat}
theorem limAll_rep {n : Nat} {kk : Key} {y : Vl} (hy : y.lim n = true) : ∀ {ks : List Key} {vs : List Vl}, limAll n vs = true → limAll n (repD kk y ks vs) = true
  | [], _, _ => by simp [repD, limAll]
  | _ :: _, [], _ => by simp [repD, limAll]
  | j :: ks, v :: vs, h => by
    simp only [limAll, Bool.and_eq_true] at h
    simp only [repD, limAll, Bool.and_eq_true]
    refine ⟨?_, limAll_rep hy h.2⟩
    split
    · exact hy
    · exact h.1
theorem limAll_put {n : Nat} {kk : Key} {y : Vl} {ks : List Key} {vs : List Vl} (hy : y.lim n = true) (h : limAll n vs = true) : limAll n (putD ks vs kk y).2 = true := by
  unfold putD
  split
  · exact limAll_rep hy h
  · exact limAll_app h hy
theorem key_V {ρ : List Addr} {H : Hp} {x : Vl} {v : V} {kk : Key} (h : VR G ρ H x v) (e : x.key = some kk) : v = kV kk := by
  cases x <;> simp only [Vl.key] at e <;> cases e <;> (simp only [VR] at h; subst h; rfl)
theorem dc_tF {own : List Nat} {ke ve : E} {t : Tg} {src : Src} {ci : Es} (ht : ∀ i ∈ t.slots, i ∈ own) (σ : L2.St) (H : Hp) (Q : VK) (h : tF G M W (.dcomp own ke ve t src ci) σ H Q) : tDc (tS G M W src) (tG G t) (tAll G M WF ci) (tE G M WF ke) (tE G M WF ve) own σ H Q := by
  obtain ⟨ρ, η, S, s, r, h⟩ := h
  refine ⟨ρ, η, S, s, r, ?_⟩
  simp only [evf] at h
  refine (PR.bind h).mono fun ρ1 H1 p S1 st s1 h1 J jw D hD => ?_
  obtain ⟨lk, xs⟩ := p
  simp only at h1 jw
  have hD0 : H D = none := none_of s s1 st hD
  have hDn : D ∉ ρ1 := s1.free hD
  have hl1 := s1.len
  have sm : Same H1 (upd H1 D (.dK [])) := same_new hD
  have stD : Step ρ1 H1 (ρ1 ++ [D]) (upd H1 D (.dK [])) := (stepSame sm).one hD
  have simD : Sim G (ρ1 ++ [D]) (upd H1 D (.dK [])) (S1 ++ [.dct [] []]) := s1.new hD ⟨[], upd_same, rfl, VRs.nil⟩
  have rD : (ρ1 ++ [D])[S1.length]? = some D := by rw [← hl1]; simp
  generalize hstep : (fun (x : Vl) (S2 : Hs) => match bindT t x (wipeG η own) with
      | none => (Res.bad : Res (Option (Vl × Vl)))
      | some η1 => (evAll M ci η1 S2).bind fun b S3 => if b = true then (ev M ke η1 S3).bind fun k S4 => (ev M ve η1 S4).bind fun y S5 => .ok (some (k, y)) S5 else .ok none S3) = step at h1
  refine ⟨fun i m H' => m = xs.length - i ∧ i ≤ xs.length ∧ ∃ ks vs, Step ρ1 H1 (ρ1 ++ [D]) H' ∧ Sim G (ρ1 ++ [D]) H' (S1 ++ [.dct ks vs]) ∧ PR G W σ ρ1 H1 ((compD step lk (xs.drop i) ks vs S1).bind fun q S2 => .ok (.dct q.1 q.2) S2) (okF G H Q) ∧ limAll S1.length vs = true, ⟨xs.length, by simp, Nat.zero_le _, [], [], stD, simD, by simpa using h1, by simp [limAll]⟩, ?_⟩
  rintro i m H' ⟨rfl, hi, ks, vs, st', s', h', la⟩
  by_cases hl : i < xs.length
  · refine .inr ?_
    rw [List.drop_eq_getElem_cons hl] at h'
    simp only [compD] at h'
    split at h'
    · rename_i l'
      have l2 : lockd lk (S1 ++ [.dct ks vs]) := fun p hp => by
        have e := l' p hp
        rw [List.getElem?_append_left (lt_of_get e)]; exact e
      obtain ⟨hgo, hy⟩ := jw.go _ H' _ i xs[i] (Step.x st') s' l2 (by simp [hl])
      refine ⟨hgo, fun H3 => ∃ ks vs, Step ρ1 H1 (ρ1 ++ [D]) H3 ∧ Sim G (ρ1 ++ [D]) H3 (S1 ++ [.dct ks vs]) ∧ PR G W σ ρ1 H1 ((compD step lk (xs.drop (i + 1)) ks vs S1).bind fun q S2 => .ok (.dct q.1 q.2) S2) (okF G H Q) ∧ limAll S1.length vs = true, fun H3 a => ⟨xs.length - (i + 1), by omega, rfl, by omega, a⟩, fun v H3 y => ?_⟩
      obtain ⟨sm3, hv⟩ := hy v H3 y
      have st3 : Step (ρ1 ++ [D]) H' (ρ1 ++ [D]) H3 := stepSame sm3
      have s3 := s'.same sm3
      have est : step xs[i] (S1 ++ [.dct ks vs]) = match bindT t xs[i] (wipeG η own) with
          | none => (Res.bad : Res (Option (Vl × Vl)))
          | some η1 => (evAll M ci η1 (S1 ++ [.dct ks vs])).bind fun b S3 => if b = true then (ev M ke η1 S3).bind fun k S4 => (ev M ve η1 S4).bind fun y S5 => .ok (some (k, y)) S5 else .ok none S3 := by rw [← hstep]
      cases eb : bindT t xs[i] (wipeG η own) with
      | none => rw [est, eb] at h'; exact h'.elim
      | some η2 =>
        rw [est, eb] at h'
        simp only at h'
        have er3 : ER G (ρ1 ++ [D]) H3 (wipeG η own) (wipe σ own) := (((r.step st).step st').step st3).wipe own
        refine ⟨ρ1 ++ [D], S1 ++ [.dct ks vs], wipeG η own, xs[i], η2, s3, er3, hv, eb, fun σ4 of4 r4 => ⟨wipe_off of4 ht, ρ1 ++ [D], η2, S1 ++ [.dct ks vs], s3, r4, ?_⟩⟩
        cases ea : evAll M ci η2 (S1 ++ [.dct ks vs]) with
        | bad => rw [ea] at h'; exact h'.elim
        | exc x S3 => rw [ea] at h'; exact h'.elim
        | ok b S3 =>
          rw [ea] at h'
          simp only [Res.bind] at h'
          refine fun ρ5 H5 st5 s5 => ?_
          cases b with
          | false =>
            simp only [Bool.false_eq_true, if_false] at h' ⊢
            by_cases c5 : S3 = S1 ++ [.dct ks vs] ∧ ks.length < sizeLine
            · rw [if_pos c5] at h'
              obtain ⟨rfl, _⟩ := c5
              have e5 : ρ5 = ρ1 ++ [D] := pre_eq st5.pre (by rw [s5.len, ← s3.len])
              subst e5
              exact ⟨ks, vs, (st'.trans st3).trans st5, s5, h', la⟩
            · rw [if_neg c5] at h'; exact h'.elim
          | true =>
            simp only [if_true] at h' ⊢
            refine ⟨ρ5, η2, S3, s5, r4.step st5, ?_⟩
            cases ev6 : ev M ke η2 S3 with
            | bad => rw [ev6] at h'; exact h'.elim
            | exc x S4 => rw [ev6] at h'; exact h'.elim
            | ok kx S4 =>
              rw [ev6] at h'
              simp only [Res.bind] at h'
              refine fun ρ6 H6 st6 s6 kv hkv => ⟨ρ6, η2, S4, s6, (r4.step st5).step st6, ?_⟩
              cases ev7 : ev M ve η2 S4 with
              | bad => rw [ev7] at h'; exact h'.elim
              | exc x S5 => rw [ev7] at h'; exact h'.elim
              | ok y S5 =>
                rw [ev7] at h'
                simp only at h'
                refine fun ρ7 H7 st7 s7 w hw => ?_
                by_cases c7 : S5 = S1 ++ [.dct ks vs] ∧ ks.length < sizeLine
                · rw [if_pos c7] at h'
                  obtain ⟨rfl, hz⟩ := c7
                  have e7 : ρ7 = ρ1 ++ [D] := pre_eq ((st5.trans st6).trans st7).pre (by rw [s7.len, ← s3.len])
                  subst e7
                  cases ek : kx.key with
                  | none => rw [ek] at h'; exact h'.elim
                  | some kk =>
                    rw [ek] at h'
                    simp only at h'
                    by_cases ly : y.lim S1.length = true
                    · rw [if_pos ly] at h'
                      obtain ⟨kvs, g1, g2, g3⟩ := s7.at_ S1.length (.dct ks vs) D (by simp) rD
                      obtain ⟨p1, p2⟩ := putD_ok (k := kk) hw g2 g3
                      obtain ⟨st8, s8⟩ := Sim.put (ho := .dK (putK kvs kk w)) (o2 := .dct (putD ks vs kk y).1 (putD ks vs kk y).2) s7 rD (by
                        have stE : Step (ρ1 ++ [D]) H7 (ρ1 ++ [D]) (upd H7 D (.dK (putK kvs kk w))) := ⟨List.prefix_refl _, fun b o hb hn => by
                          rw [upd_ne fun e => hn (by subst e; simp)]; exact hb, fun b hb => .inl hb⟩
                        exact ⟨_, upd_same, p1, VRs.step stE _ _ p2⟩)
                      refine ⟨kvs, kk, key_V hkv ek, g1, by rw [← g2, List.length_map] at hz; exact hz, (putD ks vs kk y).1, (putD ks vs kk y).2, ((((st'.trans st3).trans st5).trans st6).trans st7).trans st8, by simpa using s8, h', limAll_put ly la⟩
                    · rw [if_neg ly] at h'; exact h'.elim
                · rw [if_neg c7] at h'; exact h'.elim
    · exact h'.elim
  · have e : i = xs.length := by omega
    subst e
    rw [List.drop_length] at h'
    simp only [compD] at h'
    split at h'
    · rename_i l'
      have l2 : lockd lk (S1 ++ [.dct ks vs]) := fun p hp => by
        have e := l' p hp
        rw [List.getElem?_append_left (lt_of_get e)]; exact e
      refine .inl ⟨jw.stop _ H' _ (Step.x st') s' l2, ?_⟩
      have sc : Sim G ρ1 H' S1 := s'.cut hl1 s1.lims
      have stc : Step ρ1 H1 ρ1 H' := ⟨List.prefix_refl _, st'.keep, fun a ha => .inl ha⟩
      have fin : okF G H Q ρ1 H' (.dct ks vs) S1 := h' ρ1 H' stc sc
      exact fin D hD0 hDn (OR.less (s'.at_ S1.length (.dct ks vs) D (by simp) rD) (by rw [hl1]; exact la)) s'
    · exact h'.elim
theorem pf_dcomp {kx vx tg iter : Expr} {ifs : List Expr} {scope : Scope} {own : List (Str × Nat)} {pos : Pos} {ke ve : E} {t : Tg} {src : Src} {ci : Es} (g : Good G k X) (hsl : ∀ i ∈ t.slots, i ∈ own.map (·.2)) (hi : PI X tg iter (tS G M W src)) (ok : BlkOk X.N X.env.scope scope own)
    (hg : ∀ (s : Shared) (H : Hp) (C : Addr) (cl : List (Str × Addr)) (fp : List Addr), PG (X.blk s H scope (compEnvC scope cl C X.env) fp) tg (tG G t)) (ht : ∀ (s : Shared) (H : Hp) (C : Addr) (cl : List (Str × Addr)) (fp : List Addr), PTs (X.blk s H scope (compEnvC scope cl C X.env) fp) ifs (tAll G M WF ci))
    (hk : ∀ (s : Shared) (H : Hp) (C : Addr) (cl : List (Str × Addr)) (fp : List Addr), PE (X.blk s H scope (compEnvC scope cl C X.env) fp) kx (tE G M WF ke))
    (he : ∀ (s : Shared) (H : Hp) (C : Addr) (cl : List (Str × Addr)) (fp : List Addr), PE (X.blk s H scope (compEnvC scope cl C X.env) fp) vx (tE G M WF ve)) (hs : ∀ x, foldedSetIterable iter X.env x = pure x := by intro _; rfl) :
    PE X (.DictComp kx vx [⟨tg, iter, ifs, 0⟩] scope pos) (tF G M W (.dcomp (own.map (·.2)) ke ve t src ci)) := (pe_dc g.calm g.nd hi ok hg ht hk he hs).imp fun σ H Q h => dc_tF hsl σ H Q h
/-! ### a list's loop, from its start -/
theorem lc_go {own : List Nat} {ce : E} {t : Tg} {ci : Es} (ht : ∀ i ∈ t.slots, i ∈ own) {σ : L2.St} {ρ1 : List Addr} {H0 H1 : Hp} {Q : VK} {η : Sg} {S1 : Hs} {lk : List Lk} {xs : List Vl} (hsame : ∀ p, H1 p = none → H0 p = none) (s1 : Sim G ρ1 H1 S1) (r1 : ER G ρ1 H1 η σ)
    (h1 : PR G W σ ρ1 H1 ((compL (fun x S2 => match bindT t x (wipeG η own) with
      | none => .bad
      | some η1 => (evAll M ci η1 S2).bind fun b S3 => if b = true then (ev M ce η1 S3).bind fun y S4 => .ok (some y) S4 else .ok none S3) lk xs [] S1).bind fun ys S2 => .ok (.lst ys) S2) (okF G H0 Q)) {J : It} (jw : JW G J ρ1 H1 lk xs) :
    tLc (fun _ H R => R J H) (tG G t) (tAll G M WF ci) (tE G M WF ce) own σ H1 Q := by
  intro D hD
  have hD0 : H0 D = none := hsame D hD
  have hDn : D ∉ ρ1 := s1.free hD
  have hl1 := s1.len
  have sm : Same H1 (upd H1 D (.lst [])) := same_new hD
  have stD : Step ρ1 H1 (ρ1 ++ [D]) (upd H1 D (.lst [])) := (stepSame sm).one hD
  have simD : Sim G (ρ1 ++ [D]) (upd H1 D (.lst [])) (S1 ++ [.lst []]) := s1.new hD ⟨[], upd_same, VRs.nil⟩
  have rD : (ρ1 ++ [D])[S1.length]? = some D := by rw [← hl1]; simp
  generalize hstep : (fun (x : Vl) (S2 : Hs) => match bindT t x (wipeG η own) with
      | none => (Res.bad : Res (Option Vl))
      | some η1 => (evAll M ci η1 S2).bind fun b S3 => if b = true then (ev M ce η1 S3).bind fun y S4 => .ok (some y) S4 else .ok none S3) = step at h1
  refine ⟨fun i m H' => m = xs.length - i ∧ i ≤ xs.length ∧ ∃ acc, Step ρ1 H1 (ρ1 ++ [D]) H' ∧ Sim G (ρ1 ++ [D]) H' (S1 ++ [.lst acc]) ∧ PR G W σ ρ1 H1 ((compL step lk (xs.drop i) acc S1).bind fun ys S2 => .ok (.lst ys) S2) (okF G H0 Q) ∧ limAll S1.length acc = true, ⟨xs.length, by simp, Nat.zero_le _, [], stD, simD, by simpa using h1, by simp [limAll]⟩, ?_⟩
  rintro i m H' ⟨rfl, hi, acc, st', s', h', la⟩
  by_cases hl : i < xs.length
  · refine .inr ?_
    rw [List.drop_eq_getElem_cons hl] at h'
    simp only [compL] at h'
    split at h'
    · rename_i l'
      have l2 : lockd lk (S1 ++ [.lst acc]) := fun p hp => by
        have e := l' p hp
        rw [List.getElem?_append_left (lt_of_get e)]; exact e
      obtain ⟨hgo, hy⟩ := jw.go _ H' _ i xs[i] (Step.x st') s' l2 (by simp [hl])
      refine ⟨hgo, fun H3 => ∃ acc, Step ρ1 H1 (ρ1 ++ [D]) H3 ∧ Sim G (ρ1 ++ [D]) H3 (S1 ++ [.lst acc]) ∧ PR G W σ ρ1 H1 ((compL step lk (xs.drop (i + 1)) acc S1).bind fun ys S2 => .ok (.lst ys) S2) (okF G H0 Q) ∧ limAll S1.length acc = true, fun H3 a => ⟨xs.length - (i + 1), by omega, rfl, by omega, a⟩, fun v H3 y => ?_⟩
      obtain ⟨sm3, hv⟩ := hy v H3 y
      have st3 : Step (ρ1 ++ [D]) H' (ρ1 ++ [D]) H3 := stepSame sm3
      have s3 := s'.same sm3
      have est : step xs[i] (S1 ++ [.lst acc]) = match bindT t xs[i] (wipeG η own) with
          | none => (Res.bad : Res (Option Vl))
          | some η1 => (evAll M ci η1 (S1 ++ [.lst acc])).bind fun b S3 => if b = true then (ev M ce η1 S3).bind fun y S4 => .ok (some y) S4 else .ok none S3 := by rw [← hstep]
      cases eb : bindT t xs[i] (wipeG η own) with
      | none => rw [est, eb] at h'; exact h'.elim
      | some η2 =>
        rw [est, eb] at h'
        simp only at h'
        have er3 : ER G (ρ1 ++ [D]) H3 (wipeG η own) (wipe σ own) := ((r1.step st').step st3).wipe own
        refine ⟨ρ1 ++ [D], S1 ++ [.lst acc], wipeG η own, xs[i], η2, s3, er3, hv, eb, fun σ4 of4 r4 => ⟨wipe_off of4 ht, ρ1 ++ [D], η2, S1 ++ [.lst acc], s3, r4, ?_⟩⟩
        cases ea : evAll M ci η2 (S1 ++ [.lst acc]) with
        | bad => rw [ea] at h'; exact h'.elim
        | exc x S3 => rw [ea] at h'; exact h'.elim
        | ok b S3 =>
          rw [ea] at h'
          simp only [Res.bind] at h'
          refine fun ρ5 H5 st5 s5 => ?_
          cases b with
          | false =>
            simp only [Bool.false_eq_true, if_false] at h' ⊢
            by_cases c5 : S3 = S1 ++ [.lst acc] ∧ acc.length < sizeLine
            · rw [if_pos c5] at h'
              obtain ⟨rfl, _⟩ := c5
              have e5 : ρ5 = ρ1 ++ [D] := pre_eq st5.pre (by rw [s5.len, ← s3.len])
              subst e5
              exact ⟨acc, (st'.trans st3).trans st5, s5, h', la⟩
            · rw [if_neg c5] at h'; exact h'.elim
          | true =>
            simp only [if_true] at h' ⊢
            refine ⟨ρ5, η2, S3, s5, r4.step st5, ?_⟩
            cases ev6 : ev M ce η2 S3 with
            | bad => rw [ev6] at h'; exact h'.elim
            | exc x S4 => rw [ev6] at h'; exact h'.elim
            | ok y S4 =>
              rw [ev6] at h'
              simp only [Res.bind] at h'
              refine fun ρ7 H7 st7 s7 w hw => ?_
              by_cases c7 : S4 = S1 ++ [.lst acc] ∧ acc.length < sizeLine
              · rw [if_pos c7] at h'
                obtain ⟨rfl, hz⟩ := c7
                have e7 : ρ7 = ρ1 ++ [D] := pre_eq (st5.trans st7).pre (by rw [s7.len, ← s3.len])
                subst e7
                by_cases ly : y.lim S1.length = true
                · rw [if_pos ly] at h'
                  obtain ⟨vs, g1, g2⟩ := s7.at_ S1.length (.lst acc) D (by simp) rD
                  have stE : Step (ρ1 ++ [D]) H7 (ρ1 ++ [D]) (upd H7 D (.lst (vs ++ [w]))) := ⟨List.prefix_refl _, fun b o hb hn => by
                    rw [upd_ne fun e => hn (by subst e; simp)]; exact hb, fun b hb => .inl hb⟩
                  obtain ⟨st8, s8⟩ := Sim.put (ho := .lst (vs ++ [w])) (o2 := .lst (acc ++ [y])) s7 rD ⟨vs ++ [w], upd_same, VRs.step stE _ _ (g2.append (VRs.cons hw VRs.nil))⟩
                  refine ⟨vs, g1, by rw [← g2.length]; exact hz, acc ++ [y], (((st'.trans st3).trans st5).trans st7).trans st8, by simpa using s8, h', ?_⟩
                  exact limAll_app la ly
                · rw [if_neg ly] at h'; exact h'.elim
              · rw [if_neg c7] at h'; exact h'.elim
    · exact h'.elim
  · have e : i = xs.length := by omega
    subst e
    rw [List.drop_length] at h'
    simp only [compL] at h'
    split at h'
    · rename_i l'
      have l2 : lockd lk (S1 ++ [.lst acc]) := fun p hp => by
        have e := l' p hp
        rw [List.getElem?_append_left (lt_of_get e)]; exact e
      refine .inl ⟨jw.stop _ H' _ (Step.x st') s' l2, ?_⟩
      have sc : Sim G ρ1 H' S1 := s'.cut hl1 s1.lims
      have stc : Step ρ1 H1 ρ1 H' := ⟨List.prefix_refl _, st'.keep, fun a ha => .inl ha⟩
      have fin : okF G H0 Q ρ1 H' (.lst acc) S1 := h' ρ1 H' stc sc
      exact fin D hD0 hDn (OR.less (s'.at_ S1.length (.lst acc) D (by simp) rD) (by rw [hl1]; exact la)) s'
    · exact h'.elim
end
/-! ### a dict that is locked -/
structure Fzd (a : Addr) (H1 H2 : Hp) : Prop where
  ne : ∀ x, x ≠ a → H2 x = H1 x
  rd : ∀ o, (∀ ob w, o ≠ .frz ob w) → Rd H1 a o → Rd H2 a o
  ins : ∀ C dx fs, H1 a ≠ some (.ins C dx fs)
section
variable {G : Glb} {a : Addr} {ρ : List Addr} {H1 H2 : Hp}
theorem Fzd.rd_ (f : Fzd a H1 H2) {x : Addr} {o : HO} (ho : ∀ ob w, o ≠ .frz ob w) (h : Rd H1 x o) : Rd H2 x o := by
  by_cases e : x = a
  · subst e; exact f.rd o ho h
  · unfold Rd at h ⊢
    rw [f.ne x e]; exact h
mutual
theorem VR.fz (f : Fzd a H1 H2) : ∀ (x : Vl) (v : V), VR G ρ H1 x v → VR G ρ H2 x v
  | .non, _, h | .bl _, _, h | .int _, _, h | .str _, _, h => by simpa only [VR] using h
  | .tup xs, v, h => by
    simp only [VR] at h ⊢
    obtain ⟨p, vs, e, h1, h2⟩ := h
    exact ⟨p, vs, e, h1.imp (fun q => ⟨f.rd_ (by intro _ _ z; cases z) q.1, q.2⟩) id, VRs.fz f xs vs h2⟩
  | .lst xs, v, h => by
    simp only [VR] at h ⊢
    obtain ⟨p, vs, e, h1, h2⟩ := h
    exact ⟨p, vs, e, ⟨f.rd_ (by intro _ _ z; cases z) h1.1, h1.2⟩, VRs.fz f xs vs h2⟩
  | .dct ks xs, v, h => by
    simp only [VR] at h ⊢
    obtain ⟨p, kvs, e, h1, n, h2, h3⟩ := h
    exact ⟨p, kvs, e, f.rd_ (by intro _ _ z; cases z) h1, n, h2, VRs.fz f xs _ h3⟩
  | .obj c ns xs, v, h => by
    simp only [VR] at h ⊢
    obtain ⟨p, dx, fs, e, h1, n, h2, h3⟩ := h
    refine ⟨p, dx, fs, e, ?_, n, h2, VRs.fz f xs _ h3⟩
    rw [f.ne p fun z => by subst z; exact f.ins _ _ _ h1]; exact h1
  | .ref r, v, h => by
    simp only [VR] at h ⊢
    exact h
theorem VRs.fz (f : Fzd a H1 H2) : ∀ (xs : List Vl) (vs : List V), VRs G ρ H1 xs vs → VRs G ρ H2 xs vs
  | [], _, h => by simpa only [VRs] using h
  | x :: xs, vs, h => by
    simp only [VRs] at h ⊢
    obtain ⟨v, r, e, h1, h2⟩ := h
    exact ⟨v, r, e, VR.fz f x v h1, VRs.fz f xs r h2⟩
end
theorem OR.fz (f : Fzd a H1 H2) {p : Addr} {o : Ob} (ne : p ≠ a) (h : OR G ρ H1 p o) : OR G ρ H2 p o := by
  cases o with
  | lst xs => obtain ⟨vs, h1, h2⟩ := h; exact ⟨vs, by rw [f.ne p ne]; exact h1, VRs.fz f _ _ h2⟩
  | dct ks xs => obtain ⟨vs, h1, h2, h3⟩ := h; exact ⟨vs, by rw [f.ne p ne]; exact h1, h2, VRs.fz f _ _ h3⟩
  | ins c ns xs => obtain ⟨dx, vs, h1, h2, h3⟩ := h; exact ⟨dx, vs, by rw [f.ne p ne]; exact h1, h2, VRs.fz f _ _ h3⟩
theorem Sim.fz {S : Hs} (f : Fzd a H1 H2) (n : a ∉ ρ) (s : Sim G ρ H1 S) : Sim G ρ H2 S := ⟨s.len, s.nd, fun r o b h1 h2 => (s.at_ r o b h1 h2).fz f fun e => n (e ▸ List.mem_of_getElem? h2)⟩
theorem ER.fz {η : Sg} {σ : L2.St} (f : Fzd a H1 H2) (r : ER G ρ H1 η σ) : ER G ρ H2 η σ := ⟨r.len, fun i x e => let ⟨v, h1, h2⟩ := r.at_ i x e; ⟨v, h1, VR.fz f x v h2⟩⟩
theorem fz_on {H : Hp} {kvs : List (Key × V)} {od : Obj} (h : H a = some (.dK kvs)) : Fzd a H (upd H a (.frz od (.dK kvs))) where
  ne := fun x e => upd_ne e
  rd := fun o ho q => by
    rcases q with q | ⟨ob, q⟩
    · rw [h] at q; cases q; exact .inr ⟨od, upd_same⟩
    · rw [h] at q; cases q
  ins := fun C dx fs q => by rw [h] at q; cases q
theorem fz_off {H : Hp} {kvs : List (Key × V)} {od : Obj} (h : H a = some (.frz od (.dK kvs))) : Fzd a H (upd H a (.dK kvs)) where
  ne := fun x e => upd_ne e
  rd := fun o ho q => by
    rcases q with q | ⟨ob, q⟩
    · rw [h] at q; cases q; exact absurd rfl (ho _ _)
    · rw [h] at q; cases q; exact .inl upd_same
  ins := fun C dx fs q => by rw [h] at q; cases q
theorem step_off {H H' : Hp} {ρ' : List Addr} {kvs : List (Key × V)} {od : Obj} (h : H a = some (.dK kvs)) (n : a ∉ ρ) (st : Step ρ (upd H a (.frz od (.dK kvs))) ρ' H') : H' a = some (.frz od (.dK kvs)) ∧ a ∉ ρ' ∧ Step ρ H ρ' (upd H' a (.dK kvs)) := by
  have e := st.keep a _ upd_same n
  refine ⟨e, st.out upd_same n, st.pre, fun b o hb hn => ?_, fun b hb => ?_⟩
  · by_cases c : b = a
    · subst c; rw [h] at hb; cases hb; exact upd_same
    · rw [upd_ne c]; exact st.keep b o (by rw [upd_ne c]; exact hb) hn
  · rcases st.new b hb with q | q
    · exact .inl q
    · refine .inr ?_
      have c : b ≠ a := fun c => by subst c; rw [upd_same] at q; cases q
      rw [upd_ne c] at q; exact q
end
section
variable {G : Glb} {M : Mach} {W : WX} {X : Cx} {k : Nat}
def tSI (G : Glb) (i : Nat) : TI := fun σ H R => ∃ (ρ : List Addr) (S : Hs) (a : Addr) (od : Obj) (kvs : List (Key × V)) (ks : List Key) (xs : List Vl), Sim G ρ H S ∧ H a = some (.frz od (.dK kvs)) ∧ a ∉ ρ ∧ σ[i]? = some (some (.ref a)) ∧ kvs.map (·.1) = ks ∧ VRs G ρ H xs (kvs.map (·.2)) ∧ ∀ J, JW G J ρ H [] (itemsL ks xs) → R J H
theorem itemsL_at : ∀ {ks : List Key} {xs : List Vl} {i : Nat} {x : Vl}, (itemsL ks xs)[i]? = some x → ∃ kk y, ks[i]? = some kk ∧ xs[i]? = some y ∧ x = .tup [match kk with | .inl i => .int i | .inr s => .str s, y]
  | [], _, _, _, e => by simp [itemsL] at e
  | _ :: _, [], _, _, e => by simp [itemsL] at e
  | kk :: ks, y :: xs, 0, z, e => by simp [itemsL] at e; exact ⟨kk, y, rfl, rfl, e.symm⟩
  | kk :: ks, y :: xs, i + 1, z, e => by
    simp only [itemsL, List.getElem?_cons_succ] at e ⊢
    exact itemsL_at e
theorem itemsL_len : ∀ {ks : List Key} {xs : List Vl}, (itemsL ks xs).length = min ks.length xs.length
  | [], _ => by simp [itemsL]
  | _ :: _, [] => by simp [itemsL]
  | x :: xs, y :: ys => by simp only [itemsL, List.length_cons, itemsL_len]; omega
theorem JW.items {ρ : List Addr} {H : Hp} {a : Addr} {od : Obj} {kvs : List (Key × V)} {ks : List Key} {xs : List Vl} (ha : H a = some (.frz od (.dK kvs))) (n : a ∉ ρ) (hk : kvs.map (·.1) = ks) (hv : VRs G ρ H xs (kvs.map (·.2))) : JW G (Iti a od kvs) ρ H [] (itemsL ks xs) where
  go := fun ρ' H' S i x st s l e => by
    obtain ⟨kk, y, e1, e2, rfl⟩ := itemsL_at e
    have lk : i < kvs.length := by rw [← hk] at e1; simpa using lt_of_get e1
    have ha' := st.keep a _ ha n (by intro φ q; cases q)
    refine ⟨⟨ha', lk⟩, fun v H2 ⟨T, k', v', ek, ev, hT, eH⟩ => ?_⟩
    subst ev eH
    have ek1 : k' = kk := by
      rw [← hk, List.getElem?_map, ek] at e1
      simpa using e1
    subst ek1
    have hv' := (VRs.stepX st _ _ hv).at_ e2 (v := v') (by rw [List.getElem?_map, ek]; rfl)
    exact pair_new s hT (by cases k' <;> simp only [VR, kV]) hv'
  stop := fun ρ' H' S st s l => by
    have ha' := st.keep a _ ha n (by intro φ q; cases q)
    refine ⟨ha', ?_⟩
    rw [itemsL_len, ← hk, List.length_map, hv.length, List.length_map]
    exact Nat.le_of_eq (Nat.min_self _).symm
theorem pi_itemsi {i kk : Nat} {x : Str} {px apos cpos tpos : Pos} {elts : List Expr} (hN : X.N[i]? = some x) (hv : Vis X.env.scope x) (hd : (x == ("__debug__" : Str)) = false) (hcd : (x == ("__classdict__" : Str)) = false) (hbase : attributeBase (.Name x px) "items" X.env (eval (.Name x px) X.env) = eval (.Name x px) X.env := by rfl) (hline : (apos.endLine == cpos.line) = true := by rfl) :
    PI X (.Tuple elts kk tpos) (.Call (.Attribute (.Name x px) "items" apos) [] [] cpos) (tSI G i) := (pi_items (pe_var hN hv hd hcd) hbase hline).imp fun σ H R ⟨ρ, S, a, od, kvs, ks, xs, s, ha, n, hσ, hk, hv, q⟩ => ⟨_, hσ, a, od, kvs, rfl, ha, q _ (JW.items ha n hk hv)⟩
theorem ic_run {own : List Nat} {ce : E} {t : Tg} {i : Nat} {ci : Es} (ht : ∀ i ∈ t.slots, i ∈ own) {σ : L2.St} {ρ : List Addr} {H : Hp} {Q : VK} {η : Sg} {S : Hs} (s : Sim G ρ H S) (r : ER G ρ H η σ) (h : PR G W σ ρ H (evf M (.icomp own ce t i ci) η S) (okF G H Q)) :
    (∃ a kvs, H a = some (.dK kvs) ∧ ∀ od, tLc (tSI G i) (tG G t) (tAll G M WF ci) (tE G M WF ce) own σ (upd H a (.frz od (.dK kvs))) (fun v H' => H' a = some (.frz od (.dK kvs)) ∧ Q v (upd H' a (.dK kvs)))) ∨ tLc (tSI G i) (tG G t) (tAll G M WF ci) (tE G M WF ce) own σ H Q := by
  simp only [evf] at h
  split at h
  · rename_i ks xs eη
    obtain ⟨v, e1, hv⟩ := r.at_ i _ eη
    simp only [VR] at hv
    obtain ⟨a, kvs, rfl, ha, n, hk, hvs⟩ := hv
    rcases ha with ha | ⟨od, ha⟩
    · refine .inl ⟨a, kvs, ha, fun od => ?_⟩
      have f := fz_on (od := od) ha
      have hf : (upd H a (.frz od (.dK kvs))) a = some (.frz od (.dK kvs)) := upd_same
      refine ⟨ρ, S, a, od, kvs, ks, xs, s.fz f n, hf, n, e1, hk, VRs.fz f _ _ hvs, fun J jw => ?_⟩
      suffices hlc : tLc (fun _ H R => R J H) (tG G t) (tAll G M WF ci) (tE G M WF ce) own σ (upd H a (.frz od (.dK kvs))) (fun v H' => H' a = some (.frz od (.dK kvs)) ∧ Q v (upd H' a (.dK kvs))) from hlc
      refine lc_go (W := W) (H0 := upd H a (.frz od (.dK kvs))) ht (fun p z => z) (s.fz f n) (r.fz f) ?_ jw
      generalize hres : ((compL _ [] (itemsL ks xs) [] S).bind fun ys S2 => (.ok (.lst ys) S2 : Res Ob)) = res at h ⊢
      cases res with
      | ok o S' =>
        intro ρ' H' st s' p hp hn ho hs
        obtain ⟨q1, q2, q3⟩ := step_off ha n st
        have f' := fz_off q1
        have np : p ≠ a := fun z => by subst z; rw [hf] at hp; cases hp
        have hHp : H p = none := by rw [upd_ne np] at hp; exact hp
        exact ⟨q1, h ρ' _ q3 (s'.fz f' q2) p hHp hn (ho.fz f' np) (hs.fz f' (by simp [q2, Ne.symm np]))⟩
      | exc x S' =>
        exfalso
        revert hres
        have nox : ∀ (step : Vl → Hs → Res (Option Vl)) (lk : List Lk) (xs acc : List Vl) (S : Hs) (x : Xc) (S' : Hs), compL step lk xs acc S ≠ .exc x S' := by
          intro step lk xs
          induction xs with
          | nil => intro acc S x S'; simp only [compL]; split <;> simp
          | cons y ys ih =>
            intro acc S x S'
            simp only [compL]
            split
            · split
              · split
                · split
                  · split
                    · exact ih _ _ _ _
                    · simp
                  · exact ih _ _ _ _
                · simp
              · simp
            · simp
        intro hres
        cases ec : compL _ [] (itemsL ks xs) [] S with
        | ok ys S2 => rw [ec] at hres; cases hres
        | exc x S2 => exact nox _ _ _ _ _ _ _ ec
        | bad => rw [ec] at hres; cases hres
      | bad => exact h.elim
    · refine .inr ⟨ρ, S, a, od, kvs, ks, xs, s, ha, n, e1, hk, hvs, fun J jw => ?_⟩
      have hlc : tLc (fun _ H R => R J H) (tG G t) (tAll G M WF ci) (tE G M WF ce) own σ H Q := lc_go (W := W) (H0 := H) ht (fun p z => z) s r h jw
      exact hlc
  · exact h.elim
/-- name = [.. for .. in d.items()], the name a local, on one row -/
theorem ps_setici {elt : Expr} {ifs : List Expr} {scope : Scope} {own : List (Str × Nat)} {pos : Pos} {ce : E} {t : Tg} {ci : Es} (g : Good G k X) {i j kk : Nat} {x y : Str} {px py spos apos cpos tpos : Pos} {elts : List Expr} (hy : X.N[i]? = some y) (hyl : X.env.scope.names.lookup y = some .local)
    (hsw : swapsWith (.ListComp elt [⟨.Tuple elts kk tpos, .Call (.Attribute (.Name x px) "items" apos) [] [] cpos, ifs, 0⟩] scope pos) (some (.Name y py)) spos.line X.env = pure true) (hsl : ∀ i ∈ t.slots, i ∈ own.map (·.2)) (hN : X.N[j]? = some x) (hv : Vis X.env.scope x) (hd : (x == ("__debug__" : Str)) = false) (hcd : (x == ("__classdict__" : Str)) = false) (ok : BlkOk X.N X.env.scope scope own)
    (hg : ∀ (s : Shared) (H : Hp) (C : Addr) (cl : List (Str × Addr)) (fp : List Addr), PG (X.blk s H scope (compEnvC scope cl C X.env) fp) (.Tuple elts kk tpos) (tG G t)) (ht : ∀ (s : Shared) (H : Hp) (C : Addr) (cl : List (Str × Addr)) (fp : List Addr), PTs (X.blk s H scope (compEnvC scope cl C X.env) fp) ifs (tAll G M WF ci))
    (he : ∀ (s : Shared) (H : Hp) (C : Addr) (cl : List (Str × Addr)) (fp : List Addr), PE (X.blk s H scope (compEnvC scope cl C X.env) fp) elt (tE G M WF ce)) (hbase : attributeBase (.Name x px) "items" X.env (eval (.Name x px) X.env) = eval (.Name x px) X.env := by rfl) (hline : (apos.endLine == cpos.line) = true := by rfl) (hs : ∀ z, foldedSetIterable (.Call (.Attribute (.Name x px) "items" apos) [] [] cpos) X.env z = pure z := by intro _; rfl) (fr : Bool) :
    PS X (.Assign [.Name y py] (.ListComp elt [⟨.Tuple elts kk tpos, .Call (.Attribute (.Name x px) "items" apos) [] [] cpos, ifs, 0⟩] scope pos) spos) (tC G M W (.asg (.nm i) (if fr then .inl (.icomp (own.map (·.2)) ce t j ci) else .alc (.icomp (own.map (·.2)) ce t j ci)))) := by
  have hp := ps_setLc g.calm g.nd hy hyl hsw (pi_itemsi (G := G) hN hv hd hcd hbase hline) ok hg ht he hs
  refine ⟨fun pins s0 σ H D I ⟨ρ, η, S, s, r, h⟩ => ?_⟩
  have h2 : PR G W σ ρ H (evf M (.icomp (own.map (·.2)) ce t j ci) η S) (okF G H fun v H' => D.nx (σ.set i (some v)) H') := by
    cases fr with
    | true =>
      simp only [if_true, exc1, ev, bindT] at h
      cases eo : evf M (.icomp (own.map (·.2)) ce t j ci) η S with
      | ok o S1 =>
        rw [eo] at h
        exact fun ρ1 H1 st s1 p hp hn ho hs => h ρ1 H1 _ st s1 ((r.step st).set i (ho.inl hn))
      | exc x S1 => rw [eo] at h; exact fun ρ1 H1 st s1 => h ρ1 H1 σ st s1 (r.step st)
      | bad => rw [eo] at h; exact h
    | false =>
      simp only [Bool.false_eq_true, if_false, exc1, ev, bindT] at h
      cases eo : evf M (.icomp (own.map (·.2)) ce t j ci) η S with
      | ok o S1 =>
        rw [eo] at h
        exact fun ρ1 H1 st s1 p hp hn ho hs => h (ρ1 ++ [p]) H1 _ (st.one hp) hs ((r.step (st.one hp)).set i (by simp only [VR]; exact ⟨p, rfl, by rw [← s1.len]; simp⟩))
      | exc x S1 => rw [eo] at h; exact fun ρ1 H1 st s1 => h ρ1 H1 σ st s1 (r.step st)
      | bad => rw [eo] at h; exact h
  rcases ic_run hsl s r h2 with ⟨a, kvs, ha, q⟩ | q
  · exact (ps_lock hp).run pins s0 σ H D I ⟨a, .dK kvs, ha, True.intro, q⟩
  · exact hp.run pins s0 σ H D I q
end
end Oz
set_option Elab.async false
set_option linter.all false
set_option maxRecDepth 100000
set_option maxHeartbeats 4000000
set_option autoImplicit false
/-! Oz: {}, classes called without arguments, defaults of positional parameters. -/
namespace Oz
open PySem L2 PyProof.Rows PySem.Spec
/-- a block's scope within another -/
def relS (scope sc : Scope) : Scope := { scope with names := scope.names.map fun (n, k) => if (k == .free && sc.kind == .function && sc.names.lookup n == some .cell) then (n, .cell) else (n, k) }
section
variable {G : Glb} {k n : Nat} {X : Cx} {M : Mach} {W : WX} {f : Addr} {fd : FuncData} {ps : List Str} {c x : Str} {p pos : Pos} {dxs : List Vl} {dvs : List V} {mv : List Value} {cs : Es}
theorem pf_dct0 : PE X (.Dict [] [] pos) (tF G M W (.dspk [] .nil)) := pe_dnewK.imp fun σ H Q ⟨ρ, η, S, s, r, h⟩ q hq => by
  simp only [evf, evs, limAll, List.nodup_nil, List.length_nil, true_and, and_true, if_true, Nat.zero_le] at h
  exact okF_new s (Step.refl _ _) s h hq fun ρ' st' => ⟨[], upd_same, rfl, VRs.nil⟩
theorem pf_new0 (g : Good G (k + 1) X) (F : FnG X.prog X.w X.K X.mg X.base k f fd ps (spI G M (0 + 1 + dxs.length) (dot c "__init__"))) (mk : Mk X.K (G.cl c) f) (hg : Gl X x) (hm : X.mg x = some (.ref (G.cl c))) (hb : KBn X.K fd ps (0 + 1) [] (fun us ws => us ++ ws ++ mv) (fun vs zs => vs ++ zs ++ dvs)) (hc : Csts G dxs dvs) (tk : Takes X W)
    (hdb : (x == ("__debug__" : Str)) = false := by decide) :
    PE X (.Call (.Name x p) [] [] pos) (tF G M W (.new c ((Es.nil : Es).app dxs))) := by
  refine ⟨fun pins s σ H Q I h0 => ?_⟩
  obtain ⟨ρ, η, S, s0, r, h⟩ := h0
  have h1 : PR G W σ ρ H (newR S (M.cal (dot c "__init__") (.ref S.length :: dxs) (S ++ [.ins c [] []]))) (okF G H Q) := by
    simp only [evf] at h
    rw [evs_app] at h
    simpa only [evs, Res.bind, List.nil_append] using h
  refine wpAny_Call_Name_kw (ld_glob I hg hm ?_ hdb)
  refine PySem.W.callWith_K0 (first := []) I.kIn mk.kp ?_
  refine run_mkK (ks := []) (us := []) (vs := []) (ws := []) (zs := []) mk F g.room g.grd hb tk I .nil .nil rfl rfl fun y dx hy hdx ne => ?_
  exact new_sp s0 (Step.refl _ _) s0 hy hdx ne (hc _ _) (by omega) h1
theorem nw0 (g : Good G (k + 1) X) (cm : Mak X.prog X.w X.K X.mg X.base G M k x c 0 [] dxs) (tk : Takes X W) (hcs : cs = (Es.nil : Es).app dxs := by simp only [Es.app, Es.cat] <;> rfl) (hg : Gl X x := by rfl) (hdb : (x == ("__debug__" : Str)) = false := by decide) : PE X (.Call (.Name x p) [] [] pos) (tF G M W (.new c cs)) := by
  obtain ⟨f, fd, ps, mv, dvs, F, mk, hm, hb, hc⟩ := cm.ex
  subst hcs
  exact pf_new0 g F mk hg hm hb hc tk hdb
end
section
variable {K : PySem.W.Frag} {x qual : Str} {params : Arguments} {body : List Stmt} {scope : Scope} {dvs : List V} {kws : List (Str × V)} {f : Addr} {fd : FuncData} {ps : List Str}
theorem kbnD (F : FunD K x qual params body scope dvs [] f fd) (hd : dvs ≠ []) (n j : Nat)
    (h : ∀ (T : Addr) (kV doc pm : Value) (an : Option Addr) (cdv ct : Value) (us its : List Value), us.length = n → its.length = dvs.length →
      ∃ k, bindArgs (PySem.W.fnOf x qual params body scope (.ref T) kV doc pm an cdv ct) ⟨us, []⟩ = seqItems? (.ref T) >>= k ∧ k (some its.toArray) = pure (ps.zip (us ++ its.drop j))) : ∃ mv, KBn K fd ps n [] (fun us ws => us ++ ws ++ mv) (fun vs zs => vs ++ zs ++ dvs.drop j) := by
  obtain ⟨oc, od, dV, kV, doc, pm, an, cdv, ct, osl, rfl, lk, hcd, hD, hK⟩ := F.ex
  rcases hD with ⟨e, _⟩ | ⟨_, T, o, its, m, rfl, lT, oT, rT⟩
  · exact absurd e hd
  · refine ⟨its.drop j, ⟨fun s us ws X l1 l2 => ?_, fun r1 r2 => (r1.append r2).append (rT.drop _)⟩⟩
    have ew : ws = [] := List.eq_nil_of_length_eq_zero l2
    subst ew
    obtain ⟨k, e1, e2⟩ := h T kV doc pm an cdv ct us its l1 rT.length.symm
    refine BindsTo.of_looks fun M => ?_
    show PySem.W.Looks M s.heap (bindArgs _ ⟨us, []⟩) (ps.zip (us ++ [] ++ its.drop j))
    rw [e1, List.append_nil]
    exact looks_items X lT oT (.of_pure e2)
theorem fund_mkD {st : Stmt} {oc : Value} {od an odT : Option Addr} {osl slT : Array (Option Value)} {kV doc pm cdv ct : Value} {T : Addr} {its : Array Value} {nT : Nat} (l : K.lookup f = some ⟨oc, od, .func (PySem.W.fnOf x qual (defArgs st) (defBody st) (defScope st) (.ref T) kV doc pm an cdv ct), osl⟩)
    (c : PySem.W.codeIn K cdv qual = true) (k : PySem.W.keepIn K (.ref f) = true) (lT : K.lookup T = some ⟨.type "tuple", odT, .seq its nT, slT⟩) (rT : Vals dvs its.toList) (hne : dvs ≠ []) (hk : KwdV K kV kws) : FunD K x qual (defArgs st) (defBody st) (defScope st) dvs kws f (PySem.W.fnOf x qual (defArgs st) (defBody st) (defScope st) (.ref T) kV doc pm an cdv ct) :=
  ⟨⟨oc, od, .ref T, kV, doc, pm, an, cdv, ct, osl, rfl, l, c, .inr ⟨hne, T, _, its.toList, nT, rfl, lT, by simp, rT⟩, hk⟩, k⟩
end
end Oz
set_option Elab.async false
set_option linter.all false
set_option maxRecDepth 100000
set_option maxHeartbeats 4000000
set_option autoImplicit false
/-! Oz: plain lemmas for dicts, while, f-strings, fields. -/
namespace Oz
open PySem L2

section
variable {M : Mach} {c : C} {cs : Cs} {a b e o1 i1 o2 i2 : E} {es : Es} {f : F} {t : Tg} {s : Src} {η η1 η2 : Sg} {S S1 S2 S3 S4 S5 T T2 : Hs} {x y z k k2 x2 v : Vl} {o : Ob} {r : Out} {xs ys : List Vl} {i : Nat}
theorem x_aug {m n : Int} (hi : η[i]? = some (some (.int m))) (h : ev M e η S = .ok (.int n) S1) : exc1 M (.aug i .Add e) η S = .nx (η.set i (some (.int (m + n)))) S1 := by simp only [exc1, hi, h, Res.out]
theorem x_fset {q : Nat} {cl : Str} {ns : List Str} {vs : List Vl} {m : Str} (h : ev M e η S = .ok y S1) (ha : ev M a η S1 = .ok (.ref q) S2) (hq : S2[q]? = some (.ins cl ns vs)) (hl : ns.length < 1000) : exc1 M (.fset a m e) η S = .nx η (S2.set q (.ins cl (putG ns vs m y).1 (putG ns vs m y).2)) := by
  simp only [exc1, h, ha, Res.out, hq, if_pos hl]
theorem x_iset (h : ev M e η S = .ok y S1) (ho : ev M a η S1 = .ok x S2) (hi : ev M b η S2 = .ok k S3) (hs : isetS S3 x k y = some T) : exc1 M (.iset a b e) η S = .nx η T := by
  simp only [exc1, h, ho, hi, Res.out, hs]
theorem x_iset2 (h : ev M e η S = .ok (.tup [y, z]) S1) (ho : ev M o1 η S1 = .ok x S2) (hi : ev M i1 η S2 = .ok k S3) (hs : isetS S3 x k y = some T) (ho2 : ev M o2 η T = .ok x2 S4) (hi2 : ev M i2 η S4 = .ok k2 S5) (hs2 : isetS S5 x2 k2 z = some T2) : exc1 M (.iset2 o1 i1 o2 i2 e) η S = .nx η T2 := by
  simp only [exc1, h, ho, hi, Res.out, hs, ho2, hi2, hs2]
theorem x_par {j : Nat} (ha : ev M a η S = .ok x S1) (hb : ev M b η S1 = .ok y S2) : exc1 M (.par i j a b) η S = .nx ((η.set i (some x)).set j (some y)) S2 := by simp only [exc1, ha, hb, Res.out]
theorem x_whl {test : E} {body : Cs} (h : whlL (fun η1 S2 => ev M test η1 S2) (fun η1 S2 => exec M body η1 S2) M.fuel η S = r) : exc1 M (.whl test body) η S = r := by simp only [exc1, h]
theorem v_chn {p q : CmpOp} {d1 d2 : Bool} (ha : ev M a η S = .ok x S1) (hb : ev M b η S1 = .ok y S2) (hp : cmpop p S2 x y = some true) (hc : ev M e η S2 = .ok z S3) (hq : cmpop q S3 y z = some d2) : ev M (.chn p q a b e) η S = .ok (.bl d2) S3 := by
  simp only [ev, ha, hb, Res.bind, ofO, hp, if_true, hc, hq]
theorem v_or1 (ha : ev M a η S = .ok (.bl true) S1) : ev M (.bor a b) η S = .ok (.bl true) S1 := by simp only [ev, ha, Res.bind]
theorem v_mn {m n : Int} (ha : ev M a η S = .ok (.int m) S1) (hb : ev M b η S1 = .ok (.int n) S2) : ev M (.mn a b) η S = .ok (.int (if n < m then n else m)) S2 := by simp only [ev, ha, hb, Res.bind]
theorem v_fs {out : Str} (h : evs M es η S = .ok xs S1) (ho : fsop xs Str.empty = some out) : ev M (.fs es) η S = .ok (.str out) S1 := by simp only [ev, h, noX, Res.bind, ofO, ho]
theorem v_orepr {cl : Str} {w : Str} (ha : ev M a η S = .ok x S1) (hm : hasM S1 x cl "__repr__" = true) (hc : M.cal (dot cl "__repr__") [x] S1 = .ok (.val (.str w)) S2) : ev M (.orepr cl a) η S = .ok (.str w) S2 := by
  simp only [ev, ha, hm, Res.bind, calV, hc, if_true, noX, Rv.v]
theorem v_isC {cl : Str} (ha : ev M a η S = .ok x S1) (h : insOf S1 x = none) : ev M (.isC cl a) η S = .ok (.bl false) S1 := by simp only [ev, ha, Res.bind, h]
theorem v_isC1 {cl : Str} {ns : List Str} {vs : List Vl} (ha : ev M a η S = .ok x S1) (h : insOf S1 x = some (cl, ns, vs)) : ev M (.isC cl a) η S = .ok (.bl true) S1 := by simp only [ev, ha, Res.bind, h, if_true]
theorem f_new {cl : Str} {o : Ob} (hs : evs M es η S = .ok xs S1) (hS : NR S1) (hc : M.cal (dot cl "__init__") (.ref S1.length :: xs) (S1 ++ [.ins cl [] []]) = .ok (.val .non) (S1 ++ [o])) (ho : o.nr = true) : evf M (.new cl es) η S = .ok o S1 := by
  simp only [evf, hs, Res.bind, hc]
  exact newR_done hS ho
theorem f_srtp (ha : ev M a η S = .ok x S1) (hx : srtpop S1 x = some xs) : evf M (.srtp a) η S = .ok (.lst xs) S1 := by simp only [evf, ha, Res.bind, hx]
theorem f_srtd (ha : ev M a η S = .ok x S1) (hx : srtdop S1 x = some xs) : evf M (.srtd a) η S = .ok (.lst xs) S1 := by simp only [evf, ha, Res.bind, hx]
theorem f_dctp (ha : ev M a η S = .ok x S1) (hx : dctpop S1 x = some o) : evf M (.dctp a) η S = .ok o S1 := by simp only [evf, ha, Res.bind, hx]
theorem f_dct0 : evf M (.dspk [] .nil) η S = .ok (.dct [] []) S := by
  simp only [evf, evs, limAll, List.nodup_nil, List.length_nil, true_and, and_true, if_true, Nat.zero_le]
theorem f_dspk {ks : List Key} {vs : List Vl} (h : evs M es η (S ++ [.dct [] []]) = .ok vs (S ++ [.dct [] []])) (hn : nrs vs = true) (hd : ks.Nodup) (hl : ks.length = vs.length) (h15 : ks.length ≤ 15) : evf M (.dspk ks es) η S = .ok (.dct ks vs) S := by
  simp only [evf, h]
  rw [if_pos ⟨trivial, nrs_lim _ _ hn, hd, hl, h15⟩]
theorem ev_enm {st : Int} {lk : List Lk} (h : ev M e η S = .ok v S1) (hv : walkS S1 v = some (lk, xs)) : evS M (.enm e st) η S = .ok (lk, enumL st xs) S1 := by simp only [evS, h, Res.bind, ofO, hv]
theorem ev_zip {l1 l2 : List Lk} (ha : ev M a η S = .ok x S1) (hb : ev M b η S1 = .ok y S2) (h1 : walkT S2 x = some (l1, xs)) (h2 : walkT S2 y = some (l2, ys)) : evS M (.zip a b) η S = .ok (l1 ++ l2, zipL xs ys) S2 := by simp only [evS, ha, hb, Res.bind, ofO, h1, h2]
end
/-- a while whose turns are counted -/
theorem whl_ok {test : Sg → Hs → Res Vl} {body : Sg → Hs → Out} (I : Nat → Sg → Hs → Prop)
    (hs : ∀ m η S, I (m + 1) η S → test η S = .ok (.bl true) S ∧ ∃ η2 S2, body η S = .nx η2 S2 ∧ I m η2 S2) (h0 : ∀ η S, I 0 η S → test η S = .ok (.bl false) S) : ∀ (m fuel : Nat) (η : Sg) (S : Hs), m < fuel → I m η S → ∃ η2 S2, whlL test body fuel η S = .nx η2 S2 ∧ I 0 η2 S2
  | m, 0, η, S, h, _ => by omega
  | 0, fuel + 1, η, S, h, i => ⟨η, S, by unfold whlL; rw [h0 η S i], i⟩
  | m + 1, fuel + 1, η, S, h, i => by
    obtain ⟨h1, η2, S2, h2, i2⟩ := hs m η S i
    obtain ⟨η3, S3, h3, i3⟩ := whl_ok I hs h0 m fuel η2 S2 (by omega) i2
    exact ⟨η3, S3, by unfold whlL; rw [h1]; simp only [h2, h3], i3⟩
section
variable {M : Mach} {own : List Nat} {elt ke ve : E} {t : Tg} {s : Src} {η : Sg} {S S1 : Hs} {lk : List Lk} {xs : List Vl}
/-- each item told by a function -/
theorem ev_compM (lk : List Lk) (xs : List Vl) (f : Vl → Vl) (h : evS M s η S = .ok (lk, xs) S1) (hl : lockd lk S1) (hz : xs.length ≤ 1000000) (hn : ∀ x ∈ xs, (f x).nr = true)
    (hs : ∀ x ∈ xs, ∀ acc : List Vl, nrs acc = true → ∃ η1, bindT t x (wipeG η own) = some η1 ∧ ev M elt η1 (S1 ++ [.lst acc]) = .ok (f x) (S1 ++ [.lst acc])) : evf M (.comp own elt t s .nil) η S = .ok (.lst (xs.map f)) S1 := by
  rw [ev_comp lk xs (fun x => some (f x)) h hl hz (fun x hx y e => by cases e; exact hn x hx) fun x hx acc ha => by
    obtain ⟨η1, h1, h2⟩ := hs x hx acc ha
    exact ⟨η1, f x, h1, h2, rfl⟩]
  simp
theorem compD_ok {step : Vl → Hs → Res (Option (Vl × Vl))} (hl : lockd lk S) (g : Vl → Key × Vl) : ∀ (xs : List Vl) (ks : List Key) (vs : List Vl), ks.length + xs.length ≤ 1000000 → nrs vs = true → (∀ x ∈ xs, (g x).2.nr = true) →
    (∀ x ∈ xs, ∀ ks vs, nrs vs = true → ∃ kx, kx.key = some (g x).1 ∧ step x (S ++ [.dct ks vs]) = .ok (some (kx, (g x).2)) (S ++ [.dct ks vs])) → compD step lk xs ks vs S = .ok (mergeD (xs.map g) ks vs) S
  | [], ks, vs, _, _, _, _ => by unfold compD; rw [if_pos hl]; rfl
  | x :: xs, ks, vs, hz, hv, hn, hs => by
    obtain ⟨kx, h1, h2⟩ := hs x List.mem_cons_self ks vs hv
    have ny := hn x List.mem_cons_self
    have hlt : ks.length < sizeLine := by
      have : (1000000 : Nat) < sizeLine := by decide
      rw [List.length_cons] at hz; omega
    unfold compD
    rw [if_pos hl, h2]
    simp only
    rw [if_pos ⟨trivial, hlt⟩]
    simp only [h1]
    rw [if_pos (nr_lim _ _ ny)]
    have hk : (putD ks vs (g x).1 (g x).2).1.length ≤ ks.length + 1 := by
      unfold putD
      split <;> simp
    have hr : nrs (putD ks vs (g x).1 (g x).2).2 = true := by
      unfold putD
      split
      · have : ∀ (ks : List Key) (vs : List Vl), nrs vs = true → nrs (repD (g x).1 (g x).2 ks vs) = true := by
          intro ks
          induction ks with
          | nil => intro vs _; simp [repD, nrs]
          | cons k ks ih =>
            intro vs h
            cases vs with
            | nil => simp [repD, nrs]
            | cons v vs =>
              simp only [nrs, Bool.and_eq_true] at h
              simp only [repD, nrs, Bool.and_eq_true]
              refine ⟨?_, ih vs h.2⟩
              split
              · exact ny
              · exact h.1
        exact this ks vs hv
      · exact nrs_append hv (by simp only [nrs, ny, Bool.and_self])
    rw [List.length_cons] at hz
    rw [compD_ok hl g xs _ _ (by omega) hr (fun y hy => hn y (List.mem_cons_of_mem _ hy)) fun y hy => hs y (List.mem_cons_of_mem _ hy)]
    rfl
theorem ev_dcomp (lk : List Lk) (xs : List Vl) (g : Vl → Key × Vl) (h : evS M s η S = .ok (lk, xs) S1) (hl : lockd lk S1) (hz : xs.length ≤ 1000000) (hn : ∀ x ∈ xs, (g x).2.nr = true)
    (hs : ∀ x ∈ xs, ∀ ks vs, nrs vs = true → ∃ η1 kx, bindT t x (wipeG η own) = some η1 ∧ ev M ke η1 (S1 ++ [.dct ks vs]) = .ok kx (S1 ++ [.dct ks vs]) ∧ kx.key = some (g x).1 ∧ ev M ve η1 (S1 ++ [.dct ks vs]) = .ok (g x).2 (S1 ++ [.dct ks vs])) :
    evf M (.dcomp own ke ve t s .nil) η S = .ok (.dct (mergeD (xs.map g) [] []).1 (mergeD (xs.map g) [] []).2) S1 := by
  simp only [evf, h, Res.bind]
  rw [compD_ok hl g xs [] [] (by rw [List.length_nil]; omega) (by simp only [nrs]) hn fun x hx ks vs hv => by
    obtain ⟨η1, kx, e1, e2, e3, e4⟩ := hs x hx ks vs hv
    exact ⟨kx, e3, by simp only [e1, evAll, if_true, e2, e4, Res.bind]⟩]
theorem ev_icomp {i : Nat} {ks : List Key} {vs : List Vl} (f : Vl → Vl) (hi : η[i]? = some (some (.dct ks vs))) (hz : ks.length ≤ 1000000) (hn : ∀ x ∈ itemsL ks vs, (f x).nr = true)
    (hs : ∀ x ∈ itemsL ks vs, ∀ acc : List Vl, nrs acc = true → ∃ η1, bindT t x (wipeG η own) = some η1 ∧ ev M elt η1 (S ++ [.lst acc]) = .ok (f x) (S ++ [.lst acc])) : evf M (.icomp own elt t i .nil) η S = .ok (.lst ((itemsL ks vs).map f)) S := by
  have hl : ∀ (ks : List Key) (vs : List Vl), (itemsL ks vs).length ≤ ks.length := by
    intro ks
    induction ks with
    | nil => intro vs; simp [itemsL]
    | cons k ks ih =>
      intro vs
      cases vs with
      | nil => simp [itemsL]
      | cons v vs => simp only [itemsL, List.length_cons]; have := ih vs; omega
  simp only [evf, hi]
  have key : ∀ F : Vl → Hs → Res (Option Vl), (∀ x ∈ itemsL ks vs, ∀ acc : List Vl, nrs acc = true → F x (S ++ [.lst acc]) = .ok (some (f x)) (S ++ [.lst acc])) → (compL F [] (itemsL ks vs) [] S).bind (fun ys S2 => Res.ok (Ob.lst ys) S2) = .ok (.lst ((itemsL ks vs).map f)) S := fun F hF => by
    rw [compL_ok (fun x => some (f x)) (lock_nil S) (itemsL ks vs) [] (by have := hl ks vs; rw [List.length_nil]; omega) (by simp only [nrs]) (fun x hx y e => by cases e; exact hn x hx) hF]
    simp [Res.bind]
  exact key _ fun x hx acc ha => by
    obtain ⟨η1, h1, h2⟩ := hs x hx acc ha
    simp only [h1, evAll, if_true, h2, Res.bind]
end
/-! ### dicts by what they hold -/
theorem look_put {k j : Key} {y : Vl} : ∀ {ks : List Key} {vs : List Vl}, ks.length = vs.length → lookG (putD ks vs k y).1 (putD ks vs k y).2 j = if j = k then some y else lookG ks vs j := by
  have rep : ∀ (ks : List Key) (vs : List Vl), ks.length = vs.length → k ∈ ks → lookG ks (repD k y ks vs) j = if j = k then some y else lookG ks vs j := by
    intro ks
    induction ks with
    | nil => intro vs _ h; cases h
    | cons m ks ih =>
      intro vs hl hk
      cases vs with
      | nil => simp at hl
      | cons v vs =>
        simp only [repD, lookG]
        by_cases c : m = j
        · subst c
          rw [if_pos rfl]
          by_cases d : m = k
          · rw [if_pos d, if_pos d]
          · rw [if_neg d, if_neg d, if_pos rfl]
        · rw [if_neg c, if_neg c]
          by_cases e : k ∈ ks
          · exact ih vs (by simpa using hl) e
          · -- then k is m
            have em : k = m := by
              rcases List.mem_cons.mp hk with h | h
              · exact h
              · exact absurd h e
            subst em
            rw [if_neg fun h => c h.symm]
            have norep : ∀ (ks : List Key) (vs : List Vl), k ∉ ks → ks.length = vs.length → repD k y ks vs = vs := by
              intro ks
              induction ks with
              | nil => intro vs _ h; cases vs with
                | nil => rfl
                | cons _ _ => simp at h
              | cons m ks ih2 =>
                intro vs h hl
                cases vs with
                | nil => simp at hl
                | cons v vs =>
                  simp only [repD]
                  rw [if_neg fun z => h (by rw [z]; exact List.mem_cons_self), ih2 vs (fun z => h (List.mem_cons_of_mem _ z)) (by simpa using hl)]
            rw [norep ks vs e (by simpa using hl)]
  have app : ∀ (ks : List Key) (vs : List Vl), ks.length = vs.length → k ∉ ks → lookG (ks ++ [k]) (vs ++ [y]) j = if j = k then some y else lookG ks vs j := by
    intro ks
    induction ks with
    | nil =>
      intro vs hl _
      cases vs with
      | nil =>
        simp only [List.nil_append, lookG]
        by_cases c : k = j
        · rw [if_pos c, if_pos c.symm]
        · rw [if_neg c, if_neg (Ne.symm c)]
      | cons _ _ => simp at hl
    | cons m ks ih =>
      intro vs hl hk
      cases vs with
      | nil => simp at hl
      | cons v vs =>
        simp only [List.cons_append, lookG]
        by_cases c : m = j
        · subst c
          rw [if_pos rfl, if_pos rfl, if_neg fun z => hk (by rw [← z]; exact List.mem_cons_self)]
        · rw [if_neg c, if_neg c]
          exact ih vs (by simpa using hl) fun z => hk (List.mem_cons_of_mem _ z)
  intro ks vs hl
  unfold putD
  by_cases c : (ks.any fun j => decide (j = k)) = true
  · rw [if_pos c]
    obtain ⟨m, hm, e⟩ := List.any_eq_true.mp c
    have e := of_decide_eq_true e
    subst e
    exact rep ks vs hl hm
  · rw [if_neg c]
    refine app ks vs hl fun z => c (List.any_eq_true.mpr ⟨k, z, decide_eq_true rfl⟩)
theorem put_len {k : Key} {y : Vl} {ks : List Key} {vs : List Vl} (h : ks.length = vs.length) : (putD ks vs k y).1.length = (putD ks vs k y).2.length ∧ (putD ks vs k y).1.length ≤ ks.length + 1 := by
  have rl : ∀ (ks : List Key) (vs : List Vl), ks.length = vs.length → (repD k y ks vs).length = vs.length := by
    intro ks
    induction ks with
    | nil => intro vs h; cases vs with
      | nil => rfl
      | cons _ _ => simp at h
    | cons m ks ih => intro vs h; cases vs with
      | nil => simp at h
      | cons v vs => simp only [repD, List.length_cons]; rw [ih vs (by simpa using h)]
  unfold putD
  split
  · exact ⟨by rw [rl ks vs h]; exact h, Nat.le_succ _⟩
  · simp [h]
theorem any_look {k : Key} : ∀ {ks : List Key} {vs : List Vl}, ks.length = vs.length → (ks.any fun j => decide (j = k)) = (lookG ks vs k).isSome
  | [], [], _ => rfl
  | [], _ :: _, h => by simp at h
  | _ :: _, [], h => by simp at h
  | m :: ks, v :: vs, h => by
    simp only [List.any_cons, lookG]
    by_cases c : m = k
    · rw [if_pos c, decide_eq_true c]; simp
    · rw [if_neg c, decide_eq_false c, Bool.false_or]
      exact any_look (by simpa using h)
theorem put_new_ {k : Key} {y : Vl} {ks : List Key} {vs : List Vl} (h : k ∉ ks) : putD ks vs k y = (ks ++ [k], vs ++ [y]) := by
  unfold putD
  rw [if_neg]
  intro z
  obtain ⟨m, hm, e⟩ := List.any_eq_true.mp z
  exact h (of_decide_eq_true e ▸ hm)
theorem mergeD_new : ∀ {ps : List (Key × Vl)} {ks : List Key} {vs : List Vl}, (ks ++ ps.map (·.1)).Nodup → mergeD ps ks vs = (ks ++ ps.map (·.1), vs ++ ps.map (·.2))
  | [], ks, vs, _ => by simp [mergeD]
  | p :: ps, ks, vs, h => by
    have hp : p.1 ∉ ks := fun z => (List.nodup_append.mp h).2.2 p.1 z p.1 (by simp) rfl
    simp only [mergeD, put_new_ hp]
    rw [mergeD_new (by simpa using h)]
    simp
/-- a dict told: m of whole numbers -/
def Dm (ks : List Key) (vs : List Vl) (m : Int → Option Int) : Prop := ks.length = vs.length ∧ nrs vs = true ∧ ∀ t : Int, lookG ks vs (Sum.inl t) = (m t).map Vl.int
theorem Dm.put {ks : List Key} {vs : List Vl} {m : Int → Option Int} (h : Dm ks vs m) (t y : Int) : Dm (putD ks vs (Sum.inl t) (.int y)).1 (putD ks vs (Sum.inl t) (.int y)).2 fun u => if u = t then some y else m u := by
  refine ⟨(put_len h.1).1, ?_, fun u => ?_⟩
  · unfold putD
    split
    · have : ∀ (ks : List Key) (vs : List Vl), nrs vs = true → nrs (repD (Sum.inl t) (.int y) ks vs) = true := by
        intro ks
        induction ks with
        | nil => intro vs _; simp [repD, nrs]
        | cons k ks ih => intro vs h; cases vs with
          | nil => simp [repD, nrs]
          | cons v vs =>
            simp only [nrs, Bool.and_eq_true] at h
            simp only [repD, nrs, Bool.and_eq_true]
            refine ⟨?_, ih vs h.2⟩
            split
            · simp [Vl.nr]
            · exact h.1
      exact this ks vs h.2.1
    · exact nrs_append h.2.1 (by simp [nrs, Vl.nr])
  · rw [look_put h.1]
    by_cases c : u = t
    · subst c; rw [if_pos rfl]; simp
    · rw [if_neg (fun z => c (Sum.inl.inj z))]; simp only [if_neg c]; exact h.2.2 u
theorem Dm.mem {ks : List Key} {vs : List Vl} {m : Int → Option Int} (h : Dm ks vs m) (t : Int) : (ks.any fun j => decide (j = Sum.inl t)) = (m t).isSome := by
  rw [any_look h.1, h.2.2 t, Option.isSome_map]
theorem Dm.nil : Dm [] [] fun _ => none := ⟨rfl, by simp only [nrs], fun t => rfl⟩
theorem Dm.congr {ks : List Key} {vs : List Vl} {m m' : Int → Option Int} (h : Dm ks vs m) (e : ∀ t, m t = m' t) : Dm ks vs m' := ⟨h.1, h.2.1, fun t => by rw [h.2.2 t, e t]⟩
/-- a dict by its items -/
theorem memF_dct {S : Hs} {v : Vl} {ks : List Key} {vs : List Vl} {t : Int} (h : dctOf S v = some (ks, vs)) : memF S (.int t) v = some (ks.any fun j => decide (j = Sum.inl t)) := by
  cases v with
  | str z => simp [dctOf] at h
  | dct a b => unfold memF; simp only [h]; rfl
  | ref r => unfold memF; simp only [h]; rfl
  | _ => simp [dctOf] at h
theorem memF_dcts {S : Hs} {v : Vl} {ks : List Key} {vs : List Vl} {t : Str} (h : dctOf S v = some (ks, vs)) : memF S (.str t) v = some (ks.any fun j => decide (j = Sum.inr t)) := by
  cases v with
  | str z => simp [dctOf] at h
  | dct a b => unfold memF; simp only [h]; rfl
  | ref r => unfold memF; simp only [h]; rfl
  | _ => simp [dctOf] at h
theorem ix_dct {S : Hs} {v : Vl} {ks : List Key} {vs : List Vl} {t : Int} (h : dctOf S v = some (ks, vs)) : idxop S v (.int t) = lookG ks vs (Sum.inl t) := by
  cases v with
  | str z => simp [dctOf] at h
  | dct a b => unfold idxop; simp only [h]; rfl
  | ref r => unfold idxop; simp only [h]; rfl
  | _ => simp [dctOf] at h
theorem ix_dcts {S : Hs} {v : Vl} {ks : List Key} {vs : List Vl} {t : Str} (h : dctOf S v = some (ks, vs)) : idxop S v (.str t) = lookG ks vs (Sum.inr t) := by
  cases v with
  | str z => simp [dctOf] at h
  | dct a b => unfold idxop; simp only [h]; rfl
  | ref r => unfold idxop; simp only [h]; rfl
  | _ => simp [dctOf] at h
theorem iset_dct {S : Hs} {r : Nat} {ks : List Key} {vs : List Vl} {k y : Vl} {kk : Key} (h : S[r]? = some (.dct ks vs)) (hk : k.key = some kk) (hl : ks.length ≤ 1000000) : isetS S (.ref r) k y = some (S.set r (.dct (putD ks vs kk y).1 (putD ks vs kk y).2)) := by
  unfold isetS
  simp only [h, hk]
  rw [if_pos (Nat.lt_of_le_of_lt hl (by decide))]
theorem iset_lst {S : Hs} {r : Nat} {xs : List Vl} {i : Nat} {y : Vl} (h : S[r]? = some (.lst xs)) (hi : i < xs.length) : isetS S (.ref r) (.int i) y = some (S.set r (.lst (xs.set i y))) := by
  have e : ixN xs.length (i : Int) = some i := by
    unfold ixN
    rw [if_pos (by omega), if_pos (by omega), Int.toNat_natCast]
  unfold isetS
  simp only [h, e]
end Oz
set_option Elab.async false
set_option linter.all false
set_option maxRecDepth 100000
set_option maxHeartbeats 4000000
namespace K03
open PySem L2 Oz

def N_is_word : List Str := ["text", "least", "most", "sign"]
def q1_is_word : F :=
  (.comp [3] (.cmp .In (.var 3) (.cst (.str "abcdefghijklmnopqrstuvwxyz"))) (.nm 3) (.chars (.var 0)) .nil)
def b_is_word : Cs :=
  (.cons (.ret (.band (.chn .LtE .LtE (.var 1) (.b1 .len (.var 0)) (.var 2)) (.b1 .all (.inl q1_is_word)))) .nil)
def d_is_word : Dfn := ⟨3, 4, b_is_word⟩
def N_need_names : List Str := ["names", "seen", "name", "target"]
def w1_need_names : Cs :=
  (.cons (.ite (.bor (.bnot (.call "is_word" (.cons (.var 2) (.cons (.cst (.int 1)) (.cons (.cst (.int 6)) .nil))))) (.cmp .In (.var 2) (.var 1))) (.cons .bad .nil) .nil) (.cons (.iset (.var 1) (.var 2) (.cst (.bl true))) .nil))
def b_need_names : Cs :=
  (.cons (.asg (.nm 1) (.alc (.dspk [] .nil))) (.cons (.for_ (.tp (.cons (.nm 2) (.cons (.nm 3) .nil))) (.sq (.var 0)) w1_need_names) .nil))
def d_need_names : Dfn := ⟨1, 4, b_need_names⟩
def N_is_item : List Str := ["word", "targets", "many", "good", "target"]
def q1_is_item : F :=
  (.comp [4] (.chn .LtE .LtE (.cst (.int (-1))) (.var 4) (.var 2)) (.nm 4) (.sq (.var 1)) .nil)
def b_is_item : Cs :=
  (.cons (.ite (.cmp .Eq (.var 0) (.cst (.str "cell"))) (.cons (.asg (.nm 3) (.cmp .Eq (.b1 .len (.var 1)) (.cst (.int 2)))) .nil) (.cons (.asg (.nm 3) (.band (.call "is_word" (.cons (.var 0) (.cons (.cst (.int 2)) (.cons (.cst (.int 8)) .nil)))) (.cmp .LtE (.b1 .len (.var 1)) (.cst (.int 2))))) .nil)) (.cons (.ret (.band (.var 3) (.b1 .all (.inl q1_is_item)))) .nil))
def d_is_item : Dfn := ⟨3, 5, b_is_item⟩
def N_met_from : List Str := ["names", "items", "found", "seen", "name", "target", "at", "word", "targets"]
def w1_met_from : Cs :=
  (.cons (.ite (.cmp .NotIn (.var 5) (.var 3)) (.cons (.iset (.var 3) (.var 5) (.cst (.bl true))) (.cons (.ex (.mut .append (.var 2) (.cons (.var 5) .nil))) .nil)) .nil) .nil)
def w2_met_from : Cs :=
  (.cons (.ite (.cmp .NotIn (.var 5) (.var 3)) (.cons (.iset (.var 3) (.var 5) (.cst (.bl true))) (.cons (.ex (.mut .append (.var 2) (.cons (.var 5) .nil))) .nil)) .nil) .nil)
def w3_met_from : Cs :=
  (.cons (.asg (.tp (.cons (.nm 7) (.cons (.nm 8) .nil))) (.idx (.var 1) (.bin .Sub (.idx (.var 2) (.var 6)) (.cst (.int 1))))) (.cons (.aug 6 .Add (.cst (.int 1))) (.cons (.for_ (.nm 5) (.sq (.var 8)) w2_met_from) .nil)))
def b_met_from : Cs :=
  (.cons (.asg (.nm 2) (.alc (.lst .nil))) (.cons (.asg (.nm 3) (.alc (.dspk [Sum.inl (0), Sum.inl (-1)] (.cons (.cst (.bl true)) (.cons (.cst (.bl true)) .nil))))) (.cons (.for_ (.tp (.cons (.nm 4) (.cons (.nm 5) .nil))) (.sq (.inl (.srtp (.var 0)))) w1_met_from) (.cons (.asg (.nm 6) (.cst (.int 0))) (.cons (.whl (.cmp .Lt (.var 6) (.b1 .len (.var 2))) w3_met_from) (.cons (.ret (.var 2)) .nil))))))
def d_met_from : Dfn := ⟨2, 9, b_met_from⟩
def N_Webu_initu : List Str := ["self", "names", "items", "place", "word", "targets", "name", "target", "order", "anew", "at", "point", "one"]
def w1_Webu_initu : Cs :=
  (.cons (.ite (.bnot (.call "is_item" (.cons (.var 4) (.cons (.var 5) (.cons (.b1 .len (.var 2)) .nil))))) (.cons .bad .nil) .nil) .nil)
def q2_Webu_initu : F :=
  (.comp [6, 7] (.chn .LtE .LtE (.cst (.int (-1))) (.var 7) (.b1 .len (.var 2))) (.tp (.cons (.nm 6) (.cons (.nm 7) .nil))) (.sq (.var 1)) .nil)
def q3_Webu_initu : F :=
  (.dcomp [10, 11] (.var 11) (.var 10) (.tp (.cons (.nm 10) (.cons (.nm 11) .nil))) (.enm (.var 8) 1) .nil)
def q4_Webu_initu : F :=
  (.dcomp [6, 7] (.var 6) (.idx (.var 9) (.var 7)) (.tp (.cons (.nm 6) (.cons (.nm 7) .nil))) (.sq (.inl (.srtp (.var 1)))) .nil)
def q5_Webu_initu : F :=
  (.comp [12] (.idx (.var 9) (.var 12)) (.nm 12) (.sq (.idx (.idx (.var 2) (.bin .Sub (.var 11) (.cst (.int 1)))) (.cst (.int 1)))) .nil)
def q6_Webu_initu : F :=
  (.comp [11] (.tup (.cons (.idx (.idx (.var 2) (.bin .Sub (.var 11) (.cst (.int 1)))) (.cst (.int 0))) (.cons (.b1 .tuple (.inl q5_Webu_initu)) .nil))) (.nm 11) (.sq (.var 8)) .nil)
def b_Webu_initu : Cs :=
  (.cons (.ex (.call "need_names" (.cons (.var 1) .nil))) (.cons (.for_ (.tp (.cons (.nm 3) (.cons (.tp (.cons (.nm 4) (.cons (.nm 5) .nil))) .nil))) (.enm (.var 2) 0) w1_Webu_initu) (.cons (.ite (.bnot (.b1 .all (.inl q2_Webu_initu))) (.cons .bad .nil) .nil) (.cons (.ite (.bor (.cmp .Gt (.b1 .len (.var 1)) (.cst (.int 6))) (.cmp .Gt (.b1 .len (.var 2)) (.cst (.int 200)))) (.cons .bad .nil) .nil) (.cons (.asg (.nm 8) (.call "met_from" (.cons (.var 1) (.cons (.var 2) .nil)))) (.cons (.ite (.cmp .Lt (.b1 .len (.var 8)) (.b1 .len (.var 2))) (.cons .bad .nil) .nil) (.cons (.asg (.nm 9) (.alc q3_Webu_initu)) (.cons (.iset2 (.var 9) (.cst (.int 0)) (.var 9) (.cst (.int (-1))) (.tup (.cons (.cst (.int 0)) (.cons (.cst (.int (-1))) .nil)))) (.cons (.fset (.var 0) "leads" (.inl q4_Webu_initu)) (.cons (.fset (.var 0) "spots" (.inl q6_Webu_initu)) .nil))))))))))
def d_Webu_initu : Dfn := ⟨3, 13, b_Webu_initu⟩
def N_Webu_equ : List Str := ["self", "other"]
def b_Webu_equ : Cs :=
  (.cons (.ret (.band (.isC "Web" (.var 1)) (.band (.cmp .Eq (.fld (.var 0) "leads") (.fld (.var 1) "leads")) (.cmp .Eq (.fld (.var 0) "spots") (.fld (.var 1) "spots"))))) .nil)
def d_Webu_equ : Dfn := ⟨2, 2, b_Webu_equ⟩
def N_Webu_lenu : List Str := ["self"]
def b_Webu_lenu : Cs :=
  (.cons (.ret (.b1 .len (.fld (.var 0) "spots"))) .nil)
def d_Webu_lenu : Dfn := ⟨1, 1, b_Webu_lenu⟩
def N_Webu_repru : List Str := ["self"]
def b_Webu_repru : Cs :=
  (.cons (.ret (.b1 .str (.call "web_text" (.cons (.fld (.var 0) "leads") (.cons (.fld (.var 0) "spots") .nil))))) .nil)
def d_Webu_repru : Dfn := ⟨1, 1, b_Webu_repru⟩
def N_Web_is_heap : List Str := ["self", "word", "targets"]
def q1_Web_is_heap : F :=
  (.comp [1, 2] (.cmp .Eq (.var 1) (.cst (.str "cell"))) (.tp (.cons (.nm 1) (.cons (.nm 2) .nil))) (.sq (.fld (.var 0) "spots")) .nil)
def b_Web_is_heap : Cs :=
  (.cons (.ret (.b1 .all (.inl q1_Web_is_heap))) .nil)
def d_Web_is_heap : Dfn := ⟨1, 3, b_Web_is_heap⟩
def N_mark : List Str := ["target"]
def b_mark : Cs :=
  (.cons (.ite (.cmp .Eq (.var 0) (.cst (.int 0))) (.cons (.ret (.cst (.str "-"))) .nil) .nil) (.cons (.ret (.ite (.cmp .Eq (.var 0) (.cst (.int (-1)))) (.cst (.str "*")) (.b1 .str (.var 0)))) .nil))
def d_mark : Dfn := ⟨1, 1, b_mark⟩
def N_web_text : List Str := ["leads", "spots", "words", "name", "target", "at", "word", "targets", "inner"]
def q1_web_text : F :=
  (.icomp [3, 4] (.fs (.cons (.var 3) (.cons (.cst (.str "=")) (.cons (.call "mark" (.cons (.var 4) .nil)) .nil)))) (.tp (.cons (.nm 3) (.cons (.nm 4) .nil))) 0 .nil)
def q2_web_text : F :=
  (.comp [4] (.call "mark" (.cons (.var 4) .nil)) (.nm 4) (.sq (.var 7)) .nil)
def w3_web_text : Cs :=
  (.cons (.asg (.nm 8) (.tm .join (.cst (.str ",")) (.inl q2_web_text))) (.cons (.ex (.mut .append (.var 2) (.cons (.fs (.cons (.var 5) (.cons (.cst (.str ":")) (.cons (.var 6) (.cons (.cst (.str "(")) (.cons (.var 8) (.cons (.cst (.str ")")) .nil))))))) .nil))) .nil))
def b_web_text : Cs :=
  (.cons (.asg (.nm 2) (.alc q1_web_text)) (.cons (.for_ (.tp (.cons (.nm 5) (.cons (.tp (.cons (.nm 6) (.cons (.nm 7) .nil))) .nil))) (.enm (.var 1) 1) w3_web_text) (.cons (.ret (.ite (.cmp .Gt (.b1 .len (.var 2)) (.cst (.int 0))) (.tm .join (.cst (.str " ")) (.var 2)) (.cst (.str "empty")))) .nil)))
def d_web_text : Dfn := ⟨2, 9, b_web_text⟩
def N__law_cell : List Str := ["_law_script", "_law_k", "_law_base", "_law_one"]
def w1__law_cell : Cs :=
  (.cons (.asg (.nm 2) (.bin .Mod (.bin .Add (.bin .Mult (.var 2) (.cst (.int 31))) (.var 3)) (.cst (.int 1000003)))) .nil)
def b__law_cell : Cs :=
  (.cons (.ite (.cmp .Lt (.var 1) (.b1 .len (.var 0))) (.cons (.ret (.idx (.var 0) (.var 1))) .nil) .nil) (.cons (.asg (.nm 2) (.cst (.int 17))) (.cons (.for_ (.nm 3) (.sq (.var 0)) w1__law_cell) (.cons (.ret (.bin .Mod (.bin .Mult (.bin .Mult (.bin .Add (.var 2) (.cst (.int 1))) (.bin .Add (.var 1) (.cst (.int 3)))) (.cst (.int 7919))) (.cst (.int 2147483629)))) .nil))))
def d__law_cell : Dfn := ⟨2, 4, b__law_cell⟩
def N__law_digits : List Str := ["_law_script", "_law_k", "_law_sizes", "_law_cell_here", "_law_out", "_law_rest", "_law_size", "_law_one", "_law_j", "_law_two"]
def w1__law_digits : Cs :=
  (.cons (.ex (.mut .append (.var 4) (.cons (.bin .Mod (.var 5) (.var 6)) .nil))) (.cons (.asg (.nm 5) (.bin .FloorDiv (.var 5) (.var 6))) .nil))
def w2__law_digits : Cs :=
  (.cons (.asg (.nm 7) (.bin .Mod (.bin .Add (.bin .Mult (.var 7) (.cst (.int 48271))) (.bin .Mult (.cst (.int 10007)) (.bin .Add (.var 8) (.cst (.int 1))))) (.cst (.int 2147483629)))) (.cons (.asg (.nm 9) (.bin .Mod (.bin .Add (.bin .Add (.bin .Mult (.var 7) (.var 7)) (.bin .Mult (.cst (.int 69621)) (.var 7))) (.var 8)) (.cst (.int 2147483563)))) (.cons (.ex (.mut .append (.var 4) (.cons (.bin .Mod (.bin .FloorDiv (.var 9) (.cst (.int 11))) (.idx (.var 2) (.var 8))) .nil))) .nil)))
def b__law_digits : Cs :=
  (.cons (.asg (.nm 3) (.call "_law_cell" (.cons (.var 0) (.cons (.var 1) .nil)))) (.cons (.asg (.nm 4) (.alc (.lst .nil))) (.cons (.ite (.cmp .GtE (.var 3) (.bin .Pow (.cst (.int 10)) (.cst (.int 18)))) (.cons (.asg (.nm 5) (.bin .Sub (.var 3) (.bin .Pow (.cst (.int 10)) (.cst (.int 18))))) (.cons (.for_ (.nm 6) (.sq (.var 2)) w1__law_digits) (.cons (.ret (.var 4)) .nil))) .nil) (.cons (.asg (.nm 7) (.bin .Mod (.var 3) (.cst (.int 2147483647)))) (.cons (.for_ (.nm 8) (.rng1 (.b1 .len (.var 2))) w2__law_digits) (.cons (.ret (.var 4)) .nil))))))
def d__law_digits : Dfn := ⟨3, 10, b__law_digits⟩
def N__law_same : List Str := ["_law_one", "_law_other"]
def b__law_same : Cs :=
  (.cons (.ite (.isD (.var 1)) (.cons .bad .nil) .nil) (.cons (.ret (.band (.cmp .Eq (.var 0) (.var 1)) (.cmp .Eq (.b1 .repr (.var 0)) (.b1 .repr (.var 1))))) .nil))
def d__law_same : Dfn := ⟨2, 2, b__law_same⟩
def N__law_names : List Str := ["_law_script", "_law_k", "_law_many", "_law_found", "_law_letters", "_law_j", "_law_one", "_law_two", "_law_size", "_law_place", "_law_rest", "_law_i", "_law_sort_of", "_law_name", "_law_tries", "_law_tail", "_law_one_more"]
def q1__law_names : F :=
  (.comp [11] (.idx (.var 4) (.bin .Mod (.bin .Add (.bin .Add (.var 6) (.bin .Mult (.var 11) (.var 7))) (.bin .Mult (.cst (.int 3)) (.var 5))) (.cst (.int 26)))) (.nm 11) (.rng1 (.var 8)) .nil)
def q2__law_names : F :=
  (.comp [15] (.bin .Add (.bin .Add (.cst (.str "z")) (.idx (.var 4) (.var 5))) (.var 15)) (.nm 15) (.chars (.cst (.str "ijklmnopqrst"))) .nil)
def q3__law_names : F :=
  (.comp [16] (.var 16) (.nm 16) (.sq (.var 14)) (.cons (.cmp .NotIn (.var 16) (.var 3)) .nil))
def w4__law_names : Cs :=
  (.cons (.asg (.tp (.cons (.nm 6) (.cons (.nm 7) (.cons (.nm 8) (.cons (.nm 9) .nil))))) (.call "_law_digits" (.cons (.var 0) (.cons (.bin .Add (.var 1) (.bin .Mod (.var 5) (.cst (.int 2)))) (.cons (.inl (.lst (.cons (.cst (.int 26)) (.cons (.cst (.int 26)) (.cons (.cst (.int 6)) (.cons (.cst (.int 5)) .nil)))))) .nil))))) (.cons (.asg (.nm 10) (.tm .join (.cst (.str "")) (.inl q1__law_names))) (.cons (.asg (.nm 12) (.idx (.var 4) (.bin .Mod (.bin .Add (.bin .Add (.var 6) (.bin .Mult (.cst (.int 7)) (.var 5))) (.cst (.int 11))) (.cst (.int 26))))) (.cons (.asg (.nm 13) (.bin .Add (.bin .Add (.slt (.var 10) .none (.some (.var 9))) (.var 12)) (.slt (.var 10) (.some (.var 9)) .none))) (.cons (.ite (.cmp .In (.var 13) (.var 3)) (.cons (.asg (.nm 14) (.inl q2__law_names)) (.cons (.asg (.nm 13) (.idx (.inl q3__law_names) (.cst (.int 0)))) .nil)) .nil) (.cons (.ex (.mut .append (.var 3) (.cons (.var 13) .nil))) .nil))))))
def b__law_names : Cs :=
  (.cons (.asg (.tp (.cons (.nm 3) (.cons (.nm 4) .nil))) (.tup (.cons (.alc (.lst .nil)) (.cons (.cst (.str "abcdefghijklmnopqrstuvwxyz")) .nil)))) (.cons (.for_ (.nm 5) (.rng1 (.var 2)) w4__law_names) (.cons (.ret (.var 3)) .nil)))
def d__law_names : Dfn := ⟨3, 17, b__law_names⟩
def N__law_met : List Str := ["_law_leads", "_law_spots_here", "_law_found", "_law_name", "_law_k", "_law_target"]
def w1__law_met : Cs :=
  (.cons (.ite (.band (.cmp .Gt (.idx (.var 0) (.var 3)) (.cst (.int 0))) (.cmp .NotIn (.idx (.var 0) (.var 3)) (.var 2))) (.cons (.ex (.mut .append (.var 2) (.cons (.idx (.var 0) (.var 3)) .nil))) .nil) .nil) .nil)
def w2__law_met : Cs :=
  (.cons (.ite (.band (.cmp .Gt (.var 5) (.cst (.int 0))) (.cmp .NotIn (.var 5) (.var 2))) (.cons (.ex (.mut .append (.var 2) (.cons (.var 5) .nil))) .nil) .nil) .nil)
def w3__law_met : Cs :=
  (.cons (.ite (.cmp .Lt (.var 4) (.b1 .len (.var 2))) (.cons (.for_ (.nm 5) (.sq (.idx (.idx (.var 1) (.idx (.var 2) (.var 4))) (.cst (.int 1)))) w2__law_met) .nil) .nil) .nil)
def b__law_met : Cs :=
  (.cons (.asg (.nm 2) (.alc (.lst .nil))) (.cons (.for_ (.nm 3) (.sq (.inl (.srtd (.var 0)))) w1__law_met) (.cons (.for_ (.nm 4) (.rng1 (.b1 .len (.var 1))) w3__law_met) (.cons (.ret (.var 2)) .nil))))
def d__law_met : Dfn := ⟨2, 6, b__law_met⟩
def N__law_canon : List Str := ["_law_leads", "_law_spots_here", "_law_order", "_law_anew", "_law_k", "_law_names_here", "_law_name", "_law_target", "_law_one"]
def w1__law_canon : Cs :=
  (.cons (.iset (.var 3) (.idx (.var 2) (.var 4)) (.bin .Add (.var 4) (.cst (.int 1)))) .nil)
def q2__law_canon : F :=
  (.comp [6] (.tup (.cons (.var 6) (.cons (.idx (.var 3) (.idx (.var 0) (.var 6))) .nil))) (.nm 6) (.sq (.inl (.srtd (.var 0)))) .nil)
def q3__law_canon : F :=
  (.comp [7] (.idx (.var 3) (.var 7)) (.nm 7) (.sq (.idx (.idx (.var 1) (.var 8)) (.cst (.int 1)))) .nil)
def q4__law_canon : F :=
  (.comp [8] (.tup (.cons (.idx (.idx (.var 1) (.var 8)) (.cst (.int 0))) (.cons (.b1 .tuple (.inl q3__law_canon)) .nil))) (.nm 8) (.sq (.var 2)) .nil)
def b__law_canon : Cs :=
  (.cons (.asg (.nm 2) (.call "_law_met" (.cons (.var 0) (.cons (.var 1) .nil)))) (.cons (.asg (.nm 3) (.alc (.dspk [Sum.inl 0] (.cons (.cst (.int 0)) .nil)))) (.cons (.iset (.var 3) (.bin .Sub (.cst (.int 0)) (.cst (.int 1))) (.bin .Sub (.cst (.int 0)) (.cst (.int 1)))) (.cons (.for_ (.nm 4) (.rng1 (.b1 .len (.var 2))) w1__law_canon) (.cons (.asg (.nm 5) (.inl q2__law_canon)) (.cons (.ret (.tup (.cons (.var 5) (.cons (.inl q4__law_canon) .nil)))) .nil))))))
def d__law_canon : Dfn := ⟨2, 9, b__law_canon⟩
def N__law_spots : List Str := ["_law_items", "_law_found", "_law_k"]
def w1__law_spots : Cs :=
  (.cons (.iset (.var 1) (.bin .Add (.var 2) (.cst (.int 1))) (.idx (.var 0) (.var 2))) .nil)
def b__law_spots : Cs :=
  (.cons (.asg (.nm 1) (.alc (.dspk [] .nil))) (.cons (.for_ (.nm 2) (.rng1 (.b1 .len (.var 0))) w1__law_spots) (.cons (.ret (.var 1)) .nil)))
def d__law_spots : Dfn := ⟨1, 3, b__law_spots⟩
def N__law_made : List Str := ["_law_raw_here"]
def b__law_made : Cs :=
  (.cons (.retf (.new "Web" (.cons (.inl (.cpy (.idx (.var 0) (.cst (.int 0))))) (.cons (.inl (.cpy (.idx (.var 0) (.cst (.int 1))))) .nil)))) .nil)
def d__law_made : Dfn := ⟨1, 1, b__law_made⟩
def N__law_mark : List Str := ["_law_target"]
def b__law_mark : Cs :=
  (.cons (.ret (.ite (.cmp .Eq (.var 0) (.cst (.int 0))) (.cst (.str "-")) (.ite (.cmp .Lt (.var 0) (.cst (.int 0))) (.cst (.str "*")) (.b1 .str (.var 0))))) .nil)
def d__law_mark : Dfn := ⟨1, 1, b__law_mark⟩
def N__law_text : List Str := ["_law_raw_here", "_law_words", "_law_name", "_law_target", "_law_k", "_law_word", "_law_targets", "_law_one"]
def q1__law_text : F :=
  (.comp [2, 3] (.bin .Add (.bin .Add (.var 2) (.cst (.str "="))) (.call "_law_mark" (.cons (.var 3) .nil))) (.tp (.cons (.nm 2) (.cons (.nm 3) .nil))) (.sq (.idx (.var 0) (.cst (.int 0)))) .nil)
def q2__law_text : F :=
  (.comp [7] (.call "_law_mark" (.cons (.var 7) .nil)) (.nm 7) (.sq (.var 6)) .nil)
def w3__law_text : Cs :=
  (.cons (.asg (.tp (.cons (.nm 5) (.cons (.nm 6) .nil))) (.idx (.idx (.var 0) (.cst (.int 1))) (.var 4))) (.cons (.ex (.mut .append (.var 1) (.cons (.bin .Add (.bin .Add (.bin .Add (.bin .Add (.bin .Add (.b1 .str (.bin .Add (.var 4) (.cst (.int 1)))) (.cst (.str ":"))) (.var 5)) (.cst (.str "("))) (.tm .join (.cst (.str ",")) (.inl q2__law_text))) (.cst (.str ")"))) .nil))) .nil))
def b__law_text : Cs :=
  (.cons (.asg (.nm 1) (.alc q1__law_text)) (.cons (.for_ (.nm 4) (.rng1 (.b1 .len (.idx (.var 0) (.cst (.int 1))))) w3__law_text) (.cons (.ret (.ite (.cmp .NotEq (.var 1) (.inl (.lst .nil))) (.tm .join (.cst (.str " ")) (.var 1)) (.cst (.str "empty")))) .nil)))
def d__law_text : Dfn := ⟨1, 8, b__law_text⟩
def N__law_raw : List Str := ["_law_script", "_law_k", "_law_words", "_law_most", "_law_many", "_law_size", "_law_lean", "_law_turning", "_law_names_here", "_law_spots_here", "_law_j", "_law_word", "_law_left", "_law_right", "_law_far", "_law_name", "_law_places", "_law_targets", "_law_leads", "_law_one", "_law_gone"]
def w1__law_raw : Cs :=
  (.cons (.asg (.tp (.cons (.nm 11) (.cons (.nm 12) (.cons (.nm 13) (.cons (.nm 14) .nil))))) (.call "_law_digits" (.cons (.var 0) (.cons (.bin .Add (.bin .Add (.var 1) (.cst (.int 2))) (.var 10)) (.cons (.inl (.lst (.cons (.bin .Add (.b1 .len (.var 2)) (.cst (.int 2))) (.cons (.cst (.int 60)) (.cons (.cst (.int 60)) (.cons (.cst (.int 12)) .nil)))))) .nil))))) (.cons (.asg (.tp (.cons (.nm 15) (.cons (.nm 16) .nil))) (.ite (.cmp .Lt (.var 11) (.b1 .len (.var 2))) (.idx (.var 2) (.var 11)) (.tup (.cons (.cst (.str "cell")) (.cons (.cst (.int 2)) .nil))))) (.cons (.asg (.nm 17) (.alc (.lst (.cons (.bin .Mod (.var 12) (.bin .Add (.var 5) (.cst (.int 1)))) (.cons (.bin .Mod (.var 13) (.bin .Add (.var 5) (.cst (.int 1)))) .nil))))) (.cons (.ite (.cmp .Eq (.var 14) (.cst (.int 0))) (.cons (.iset (.var 17) (.bin .Mod (.var 12) (.cst (.int 2))) (.bin .Sub (.cst (.int 0)) (.cst (.int 1)))) .nil) .nil) (.cons (.ite (.band (.cmp .Gt (.var 14) (.cst (.int 5))) (.cmp .Gt (.var 6) (.cst (.int 0)))) (.cons (.iset (.var 17) (.bin .Mod (.var 13) (.cst (.int 2))) (.mn (.var 5) (.bin .Add (.var 10) (.cst (.int 2))))) .nil) .nil) (.cons (.iset (.var 9) (.bin .Add (.var 10) (.cst (.int 1))) (.tup (.cons (.var 15) (.cons (.b1 .tuple (.inl (.slc (.var 17) .none (.some (.var 16))))) .nil)))) .nil))))))
def w2__law_raw : Cs :=
  (.cons (.asg (.tp (.cons (.nm 19) (.cons (.nm 20) .nil))) (.call "_law_digits" (.cons (.var 0) (.cons (.bin .Add (.bin .Add (.var 1) (.cst (.int 3))) (.var 10)) (.cons (.inl (.lst (.cons (.cst (.int 90)) (.cons (.cst (.int 9)) .nil)))) .nil))))) (.cons (.iset (.var 18) (.idx (.var 8) (.var 10)) (.ite (.cmp .Eq (.var 20) (.cst (.int 0))) (.bin .Sub (.cst (.int 0)) (.cst (.int 1))) (.bin .Mod (.bin .Add (.var 19) (.bin .Mult (.var 7) (.var 10))) (.bin .Add (.var 5) (.cst (.int 1)))))) .nil))
def b__law_raw : Cs :=
  (.cons (.asg (.tp (.cons (.nm 4) (.cons (.nm 5) (.cons (.nm 6) (.cons (.nm 7) .nil))))) (.call "_law_digits" (.cons (.var 0) (.cons (.var 1) (.cons (.inl (.lst (.cons (.cst (.int 5)) (.cons (.bin .Add (.var 3) (.cst (.int 1))) (.cons (.cst (.int 4)) (.cons (.cst (.int 97)) .nil)))))) .nil))))) (.cons (.asg (.nm 8) (.call "_law_names" (.cons (.var 0) (.cons (.bin .Add (.var 1) (.cst (.int 1))) (.cons (.bin .Add (.cst (.int 1)) (.var 4)) .nil))))) (.cons (.asg (.nm 9) (.alc (.dspk [] .nil))) (.cons (.for_ (.nm 10) (.rng1 (.var 5)) w1__law_raw) (.cons (.asg (.nm 18) (.alc (.dspk [] .nil))) (.cons (.for_ (.nm 10) (.rng1 (.b1 .len (.var 8))) w2__law_raw) (.cons (.ite (.band (.cmp .Gt (.var 5) (.cst (.int 0))) (.cmp .Lt (.var 6) (.cst (.int 3)))) (.cons (.iset (.var 18) (.idx (.var 8) (.cst (.int 0))) (.cst (.int 1))) .nil) .nil) (.cons (.ret (.call "_law_canon" (.cons (.var 18) (.cons (.var 9) .nil)))) .nil))))))))
def d__law_raw : Dfn := ⟨4, 21, b__law_raw⟩
def N__law_turned : List Str := ["_law_raw_here", "_law_by", "_law_many", "_law_anew", "_law_k", "_law_items", "_law_word", "_law_targets", "_law_one", "_law_names_here", "_law_name", "_law_target", "_law_cutting"]
def w1__law_turned : Cs :=
  (.cons (.iset (.var 3) (.bin .Add (.var 4) (.cst (.int 1))) (.bin .Add (.cst (.int 1)) (.bin .Mod (.bin .Add (.bin .Mult (.var 4) (.ite (.cmp .Eq (.bin .Mod (.var 1) (.cst (.int 2))) (.cst (.int 0))) (.cst (.int 1)) (.bin .Sub (.var 2) (.cst (.int 1))))) (.var 1)) (.var 2)))) .nil)
def q2__law_turned : F :=
  (.comp [4] (.cst .non) (.nm 4) (.rng1 (.var 2)) .nil)
def q3__law_turned : F :=
  (.comp [8] (.idx (.var 3) (.var 8)) (.nm 8) (.sq (.var 7)) .nil)
def w4__law_turned : Cs :=
  (.cons (.asg (.tp (.cons (.nm 6) (.cons (.nm 7) .nil))) (.idx (.idx (.var 0) (.cst (.int 1))) (.var 4))) (.cons (.iset (.var 5) (.bin .Sub (.idx (.var 3) (.bin .Add (.var 4) (.cst (.int 1)))) (.cst (.int 1))) (.tup (.cons (.var 6) (.cons (.b1 .tuple (.inl q3__law_turned)) .nil)))) .nil))
def q5__law_turned : F :=
  (.comp [10, 11] (.tup (.cons (.var 10) (.cons (.idx (.var 3) (.var 11)) .nil))) (.tp (.cons (.nm 10) (.cons (.nm 11) .nil))) (.sq (.idx (.var 0) (.cst (.int 0)))) .nil)
def b__law_turned : Cs :=
  (.cons (.asg (.nm 2) (.b1 .len (.idx (.var 0) (.cst (.int 1))))) (.cons (.asg (.nm 3) (.alc (.dspk [Sum.inl 0] (.cons (.cst (.int 0)) .nil)))) (.cons (.iset (.var 3) (.bin .Sub (.cst (.int 0)) (.cst (.int 1))) (.bin .Sub (.cst (.int 0)) (.cst (.int 1)))) (.cons (.for_ (.nm 4) (.rng1 (.var 2)) w1__law_turned) (.cons (.asg (.nm 5) (.alc q2__law_turned)) (.cons (.for_ (.nm 4) (.rng1 (.var 2)) w4__law_turned) (.cons (.asg (.nm 9) (.inl q5__law_turned)) (.cons (.asg (.nm 12) (.bin .Mod (.var 1) (.bin .Add (.b1 .len (.var 9)) (.cst (.int 1))))) (.cons (.ret (.tup (.cons (.inl (.cat (.inl (.slc (.var 9) (.some (.var 12)) .none)) (.inl (.slc (.var 9) .none (.some (.var 12)))))) (.cons (.var 5) .nil)))) .nil)))))))))
def d__law_turned : Dfn := ⟨2, 13, b__law_turned⟩
def N_law : List Str := ["_law_script", "_law_raws", "_law_k", "_law_raw_here", "_law_place", "_law_by", "_law_leads", "_law_spots_here", "_law_word", "_law_targets", "_law_webs", "_law_one", "_law_shapes", "_law_item", "_law_other", "_law_some"]
def w1_law : Cs :=
  (.cons (.asg (.nm 3) (.call "_law_raw" (.cons (.var 0) (.cons (.bin .Mult (.cst (.int 13)) (.var 2)) (.cons (.inl (.lst (.cons (.tup (.cons (.cst (.str "list")) (.cons (.cst (.int 0)) .nil))) (.cons (.tup (.cons (.cst (.str "seg")) (.cons (.cst (.int 1)) .nil))) .nil)))) (.cons (.cst (.int 6)) .nil)))))) (.cons (.ex (.mut .append (.var 1) (.cons (.var 3) .nil))) (.cons (.asg (.tp (.cons (.nm 4) (.cons (.nm 5) .nil))) (.call "_law_digits" (.cons (.var 0) (.cons (.bin .Add (.bin .Mult (.cst (.int 13)) (.var 2)) (.cst (.int 12))) (.cons (.inl (.lst (.cons (.cst (.int 97)) (.cons (.cst (.int 5)) .nil)))) .nil))))) (.cons (.par 6 7 (.alc (.dctp (.idx (.var 3) (.cst (.int 0))))) (.alc (.call "_law_spots" (.cons (.idx (.var 3) (.cst (.int 1))) .nil)))) (.cons (.ite (.bor (.cmp .Eq (.var 5) (.cst (.int 0))) (.cmp .Eq (.var 7) (.inl (.dspk [] .nil)))) (.cons (.iset (.var 6) (.idx (.idx (.idx (.var 3) (.cst (.int 0))) (.bin .Mod (.var 4) (.b1 .len (.idx (.var 3) (.cst (.int 0)))))) (.cst (.int 0))) (.cst (.int 0))) .nil) (.cons (.asg (.tp (.cons (.nm 8) (.cons (.nm 9) .nil))) (.idx (.var 7) (.bin .Add (.cst (.int 1)) (.bin .Mod (.var 4) (.b1 .len (.var 7)))))) (.cons (.iset (.var 7) (.bin .Add (.cst (.int 1)) (.bin .Mod (.var 4) (.b1 .len (.var 7)))) (.ite (.cmp .Lt (.var 5) (.cst (.int 3))) (.tup (.cons (.var 8) (.cons (.bin .Mult (.tup (.cons (.cst (.int 0)) .nil)) (.b1 .len (.var 9))) .nil))) (.tup (.cons (.cst (.str "cell")) (.cons (.tup (.cons (.cst (.int 1)) (.cons (.bin .Sub (.cst (.int 0)) (.cst (.int 1))) .nil))) .nil))))) .nil))) (.cons (.ex (.mut .append (.var 1) (.cons (.call "_law_canon" (.cons (.var 6) (.cons (.var 7) .nil))) .nil))) .nil))))))
def q2_law : F :=
  (.comp [3] (.call "_law_made" (.cons (.call "_law_turned" (.cons (.var 3) (.cons (.bin .Add (.bin .Mult (.cst (.int 5)) (.b1 .len (.idx (.var 3) (.cst (.int 1))))) (.cst (.int 1))) .nil))) .nil)) (.nm 3) (.sq (.var 1)) .nil)
def q3_law : F :=
  (.comp [13] (.var 13) (.nm 13) (.sq (.idx (.var 3) (.cst (.int 1)))) (.cons (.cmp .NotEq (.idx (.var 13) (.cst (.int 0))) (.cst (.str "cell"))) .nil))
def w4_law : Cs :=
  (.cons (.ite (.bor (.cmp .NotEq (.oeq "Web" false (.var 11) (.var 14)) (.cmp .Eq (.var 3) (.var 15))) (.cmp .Eq (.oeq "Web" true (.var 11) (.var 14)) (.cmp .Eq (.var 3) (.var 15)))) (.cons (.ret (.cst (.bl false))) .nil) .nil) .nil)
def w5_law : Cs :=
  (.cons (.ite (.bor (.bnot (.call "_law_same" (.cons (.orepr "Web" (.var 11)) (.cons (.call "_law_text" (.cons (.var 3) .nil)) .nil)))) (.bor (.oeq "Web" false (.var 11) (.orepr "Web" (.var 11))) (.oeq "Web" false (.var 11) (.var 3)))) (.cons (.ret (.cst (.bl false))) .nil) .nil) (.cons (.asg (.nm 12) (.inl q3_law)) (.cons (.ite (.bnot (.call "_law_same" (.cons (.inl (.lst (.cons (.olen "Web" (.var 11)) (.cons (.mcl "Web" "is_heap" (.var 11) .nil) .nil)))) (.cons (.inl (.lst (.cons (.b1 .len (.idx (.var 3) (.cst (.int 1)))) (.cons (.cmp .Eq (.var 12) (.inl (.lst .nil))) .nil)))) .nil)))) (.cons (.ret (.cst (.bl false))) .nil) .nil) (.cons (.for_ (.tp (.cons (.nm 14) (.cons (.nm 15) .nil))) (.zip (.var 10) (.var 1)) w4_law) (.cons (.ite (.bnot (.oeq "Web" false (.var 11) (.call "_law_made" (.cons (.var 3) .nil)))) (.cons (.ret (.cst (.bl false))) .nil) .nil) .nil)))))
def b_law : Cs :=
  (.cons (.asg (.nm 1) (.alc (.lst (.cons (.tup (.cons (.inl (.lst .nil)) (.cons (.inl (.lst .nil)) .nil))) .nil)))) (.cons (.for_ (.nm 2) (.rng1 (.cst (.int 4))) w1_law) (.cons (.asg (.nm 10) (.inl q2_law)) (.cons (.for_ (.tp (.cons (.nm 11) (.cons (.nm 3) .nil))) (.zip (.var 10) (.var 1)) w5_law) (.cons (.ret (.band (.oeq "Web" false (.inl (.new "Web" (.cons (.cst (.tup [])) (.cons (.cst (.tup [])) .nil)))) (.inl (.new "Web" (.cons (.inl (.lst .nil)) (.cons (.tup .nil) .nil))))) (.band (.cmp .Eq (.orepr "Web" (.inl (.new "Web" (.cons (.cst (.tup [])) (.cons (.cst (.tup [])) .nil))))) (.cst (.str "empty"))) (.cmp .Eq (.olen "Web" (.inl (.new "Web" (.cons (.cst (.tup [])) (.cons (.cst (.tup [])) .nil))))) (.cst (.int 0)))))) .nil)))))
def d_law : Dfn := ⟨1, 16, b_law⟩
def dfn (q : Str) : Option Dfn := if q = ("is_word" : Str) then some d_is_word else if q = ("need_names" : Str) then some d_need_names else if q = ("is_item" : Str) then some d_is_item else if q = ("met_from" : Str) then some d_met_from else if q = (dot "Web" "__init__" : Str) then some d_Webu_initu else if q = (dot "Web" "__eq__" : Str) then some d_Webu_equ else if q = (dot "Web" "__len__" : Str) then some d_Webu_lenu else if q = (dot "Web" "__repr__" : Str) then some d_Webu_repru else if q = (dot "Web" "is_heap" : Str) then some d_Web_is_heap else if q = ("mark" : Str) then some d_mark else if q = ("web_text" : Str) then some d_web_text else if q = ("_law_cell" : Str) then some d__law_cell else if q = ("_law_digits" : Str) then some d__law_digits else if q = ("_law_same" : Str) then some d__law_same else if q = ("_law_names" : Str) then some d__law_names else if q = ("_law_met" : Str) then some d__law_met else if q = ("_law_canon" : Str) then some d__law_canon else if q = ("_law_spots" : Str) then some d__law_spots else if q = ("_law_made" : Str) then some d__law_made else if q = ("_law_mark" : Str) then some d__law_mark else if q = ("_law_text" : Str) then some d__law_text else if q = ("_law_raw" : Str) then some d__law_raw else if q = ("_law_turned" : Str) then some d__law_turned else if q = ("law" : Str) then some d_law else none
def kdf (q : Str) : Option (List (Str × Vl)) := none
noncomputable abbrev Mn (n : Nat) : Mach := mach kdf dfn 50 n
theorem f_is_word : dfn ("is_word" : Str) = some d_is_word := by rfl
theorem u_is_word (n : Nat) (xs : List Vl) (S : Hs) : (Mn (n + 1)).cal ("is_word" : Str) xs S = calD (Mn n) d_is_word xs S := mach_cal f_is_word xs S
theorem f_need_names : dfn ("need_names" : Str) = some d_need_names := by rfl
theorem u_need_names (n : Nat) (xs : List Vl) (S : Hs) : (Mn (n + 1)).cal ("need_names" : Str) xs S = calD (Mn n) d_need_names xs S := mach_cal f_need_names xs S
theorem f_is_item : dfn ("is_item" : Str) = some d_is_item := by rfl
theorem u_is_item (n : Nat) (xs : List Vl) (S : Hs) : (Mn (n + 1)).cal ("is_item" : Str) xs S = calD (Mn n) d_is_item xs S := mach_cal f_is_item xs S
theorem f_met_from : dfn ("met_from" : Str) = some d_met_from := by rfl
theorem u_met_from (n : Nat) (xs : List Vl) (S : Hs) : (Mn (n + 1)).cal ("met_from" : Str) xs S = calD (Mn n) d_met_from xs S := mach_cal f_met_from xs S
theorem f_Webu_initu : dfn (dot "Web" "__init__" : Str) = some d_Webu_initu := by rfl
theorem u_Webu_initu (n : Nat) (xs : List Vl) (S : Hs) : (Mn (n + 1)).cal (dot "Web" "__init__" : Str) xs S = calD (Mn n) d_Webu_initu xs S := mach_cal f_Webu_initu xs S
theorem f_Webu_equ : dfn (dot "Web" "__eq__" : Str) = some d_Webu_equ := by rfl
theorem u_Webu_equ (n : Nat) (xs : List Vl) (S : Hs) : (Mn (n + 1)).cal (dot "Web" "__eq__" : Str) xs S = calD (Mn n) d_Webu_equ xs S := mach_cal f_Webu_equ xs S
theorem f_Webu_lenu : dfn (dot "Web" "__len__" : Str) = some d_Webu_lenu := by rfl
theorem u_Webu_lenu (n : Nat) (xs : List Vl) (S : Hs) : (Mn (n + 1)).cal (dot "Web" "__len__" : Str) xs S = calD (Mn n) d_Webu_lenu xs S := mach_cal f_Webu_lenu xs S
theorem f_Webu_repru : dfn (dot "Web" "__repr__" : Str) = some d_Webu_repru := by rfl
theorem u_Webu_repru (n : Nat) (xs : List Vl) (S : Hs) : (Mn (n + 1)).cal (dot "Web" "__repr__" : Str) xs S = calD (Mn n) d_Webu_repru xs S := mach_cal f_Webu_repru xs S
theorem f_Web_is_heap : dfn (dot "Web" "is_heap" : Str) = some d_Web_is_heap := by rfl
theorem u_Web_is_heap (n : Nat) (xs : List Vl) (S : Hs) : (Mn (n + 1)).cal (dot "Web" "is_heap" : Str) xs S = calD (Mn n) d_Web_is_heap xs S := mach_cal f_Web_is_heap xs S
theorem f_mark : dfn ("mark" : Str) = some d_mark := by rfl
theorem u_mark (n : Nat) (xs : List Vl) (S : Hs) : (Mn (n + 1)).cal ("mark" : Str) xs S = calD (Mn n) d_mark xs S := mach_cal f_mark xs S
theorem f_web_text : dfn ("web_text" : Str) = some d_web_text := by rfl
theorem u_web_text (n : Nat) (xs : List Vl) (S : Hs) : (Mn (n + 1)).cal ("web_text" : Str) xs S = calD (Mn n) d_web_text xs S := mach_cal f_web_text xs S
theorem f__law_cell : dfn ("_law_cell" : Str) = some d__law_cell := by rfl
theorem u__law_cell (n : Nat) (xs : List Vl) (S : Hs) : (Mn (n + 1)).cal ("_law_cell" : Str) xs S = calD (Mn n) d__law_cell xs S := mach_cal f__law_cell xs S
theorem f__law_digits : dfn ("_law_digits" : Str) = some d__law_digits := by rfl
theorem u__law_digits (n : Nat) (xs : List Vl) (S : Hs) : (Mn (n + 1)).cal ("_law_digits" : Str) xs S = calD (Mn n) d__law_digits xs S := mach_cal f__law_digits xs S
theorem f__law_same : dfn ("_law_same" : Str) = some d__law_same := by rfl
theorem u__law_same (n : Nat) (xs : List Vl) (S : Hs) : (Mn (n + 1)).cal ("_law_same" : Str) xs S = calD (Mn n) d__law_same xs S := mach_cal f__law_same xs S
theorem f__law_names : dfn ("_law_names" : Str) = some d__law_names := by rfl
theorem u__law_names (n : Nat) (xs : List Vl) (S : Hs) : (Mn (n + 1)).cal ("_law_names" : Str) xs S = calD (Mn n) d__law_names xs S := mach_cal f__law_names xs S
theorem f__law_met : dfn ("_law_met" : Str) = some d__law_met := by rfl
theorem u__law_met (n : Nat) (xs : List Vl) (S : Hs) : (Mn (n + 1)).cal ("_law_met" : Str) xs S = calD (Mn n) d__law_met xs S := mach_cal f__law_met xs S
theorem f__law_canon : dfn ("_law_canon" : Str) = some d__law_canon := by rfl
theorem u__law_canon (n : Nat) (xs : List Vl) (S : Hs) : (Mn (n + 1)).cal ("_law_canon" : Str) xs S = calD (Mn n) d__law_canon xs S := mach_cal f__law_canon xs S
theorem f__law_spots : dfn ("_law_spots" : Str) = some d__law_spots := by rfl
theorem u__law_spots (n : Nat) (xs : List Vl) (S : Hs) : (Mn (n + 1)).cal ("_law_spots" : Str) xs S = calD (Mn n) d__law_spots xs S := mach_cal f__law_spots xs S
theorem f__law_made : dfn ("_law_made" : Str) = some d__law_made := by rfl
theorem u__law_made (n : Nat) (xs : List Vl) (S : Hs) : (Mn (n + 1)).cal ("_law_made" : Str) xs S = calD (Mn n) d__law_made xs S := mach_cal f__law_made xs S
theorem f__law_mark : dfn ("_law_mark" : Str) = some d__law_mark := by rfl
theorem u__law_mark (n : Nat) (xs : List Vl) (S : Hs) : (Mn (n + 1)).cal ("_law_mark" : Str) xs S = calD (Mn n) d__law_mark xs S := mach_cal f__law_mark xs S
theorem f__law_text : dfn ("_law_text" : Str) = some d__law_text := by rfl
theorem u__law_text (n : Nat) (xs : List Vl) (S : Hs) : (Mn (n + 1)).cal ("_law_text" : Str) xs S = calD (Mn n) d__law_text xs S := mach_cal f__law_text xs S
theorem f__law_raw : dfn ("_law_raw" : Str) = some d__law_raw := by rfl
theorem u__law_raw (n : Nat) (xs : List Vl) (S : Hs) : (Mn (n + 1)).cal ("_law_raw" : Str) xs S = calD (Mn n) d__law_raw xs S := mach_cal f__law_raw xs S
theorem f__law_turned : dfn ("_law_turned" : Str) = some d__law_turned := by rfl
theorem u__law_turned (n : Nat) (xs : List Vl) (S : Hs) : (Mn (n + 1)).cal ("_law_turned" : Str) xs S = calD (Mn n) d__law_turned xs S := mach_cal f__law_turned xs S
theorem f_law : dfn ("law" : Str) = some d_law := by rfl
theorem u_law (n : Nat) (xs : List Vl) (S : Hs) : (Mn (n + 1)).cal ("law" : Str) xs S = calD (Mn n) d_law xs S := mach_cal f_law xs S
end K03
set_option Elab.async false
set_option linter.all false
set_option maxRecDepth 100000
set_option maxHeartbeats 8000000
namespace K03
open PySem L2 Oz PyProof.Rows
def topS (i : Nat) : Stmt := PySem.Challenge.pw_osier_k03_webs_alike_and_as_text.main.body.getD i (.Pass ⟨0, 0, 0, 0⟩)
abbrev s_is_word : Stmt := topS 13
theorem sc_is_word : FnScope N_is_word ["text", "least", "most"] (defScope s_is_word) := ⟨rfl, rfl, rfl, by decide +kernel, rfl, by decide +kernel, by decide +kernel⟩
abbrev s_need_names : Stmt := topS 14
theorem sc_need_names : FnScope N_need_names ["names"] (defScope s_need_names) := ⟨rfl, rfl, rfl, by decide +kernel, rfl, by decide +kernel, by decide +kernel⟩
abbrev s_is_item : Stmt := topS 15
theorem sc_is_item : FnScope N_is_item ["word", "targets", "many"] (defScope s_is_item) := ⟨rfl, rfl, rfl, by decide +kernel, rfl, by decide +kernel, by decide +kernel⟩
abbrev s_met_from : Stmt := topS 16
theorem sc_met_from : FnScope N_met_from ["names", "items"] (defScope s_met_from) := ⟨rfl, rfl, rfl, by decide +kernel, rfl, by decide +kernel, by decide +kernel⟩
abbrev s_Webu_initu : Stmt := inClass (topS 17) 0
theorem sc_Webu_initu : FnScope N_Webu_initu ["self", "names", "items"] (defScope s_Webu_initu) := ⟨rfl, rfl, rfl, by decide +kernel, rfl, by decide +kernel, by decide +kernel⟩
abbrev s_Webu_equ : Stmt := inClass (topS 17) 1
theorem sc_Webu_equ : FnScope N_Webu_equ ["self", "other"] (defScope s_Webu_equ) := ⟨rfl, rfl, rfl, by decide +kernel, rfl, by decide +kernel, by decide +kernel⟩
abbrev s_Webu_lenu : Stmt := inClass (topS 17) 2
theorem sc_Webu_lenu : FnScope N_Webu_lenu ["self"] (defScope s_Webu_lenu) := ⟨rfl, rfl, rfl, by decide +kernel, rfl, by decide +kernel, by decide +kernel⟩
abbrev s_Webu_repru : Stmt := inClass (topS 17) 3
theorem sc_Webu_repru : FnScope N_Webu_repru ["self"] (defScope s_Webu_repru) := ⟨rfl, rfl, rfl, by decide +kernel, rfl, by decide +kernel, by decide +kernel⟩
abbrev s_Web_is_heap : Stmt := inClass (topS 17) 7
theorem sc_Web_is_heap : FnScope N_Web_is_heap ["self"] (defScope s_Web_is_heap) := ⟨rfl, rfl, rfl, by decide +kernel, rfl, by decide +kernel, by decide +kernel⟩
abbrev s_mark : Stmt := topS 18
theorem sc_mark : FnScope N_mark ["target"] (defScope s_mark) := ⟨rfl, rfl, rfl, by decide +kernel, rfl, by decide +kernel, by decide +kernel⟩
abbrev s_web_text : Stmt := topS 19
theorem sc_web_text : FnScope N_web_text ["leads", "spots"] (defScope s_web_text) := ⟨rfl, rfl, rfl, by decide +kernel, rfl, by decide +kernel, by decide +kernel⟩
abbrev s__law_cell : Stmt := topS 21
theorem sc__law_cell : FnScope N__law_cell ["_law_script", "_law_k"] (defScope s__law_cell) := ⟨rfl, rfl, rfl, by decide +kernel, rfl, by decide +kernel, by decide +kernel⟩
abbrev s__law_digits : Stmt := topS 22
theorem sc__law_digits : FnScope N__law_digits ["_law_script", "_law_k", "_law_sizes"] (defScope s__law_digits) := ⟨rfl, rfl, rfl, by decide +kernel, rfl, by decide +kernel, by decide +kernel⟩
abbrev s__law_same : Stmt := topS 23
theorem sc__law_same : FnScope N__law_same ["_law_one", "_law_other"] (defScope s__law_same) := ⟨rfl, rfl, rfl, by decide +kernel, rfl, by decide +kernel, by decide +kernel⟩
abbrev s__law_names : Stmt := topS 24
theorem sc__law_names : FnScope N__law_names ["_law_script", "_law_k", "_law_many"] (defScope s__law_names) := ⟨rfl, rfl, rfl, by decide +kernel, rfl, by decide +kernel, by decide +kernel⟩
abbrev s__law_met : Stmt := topS 25
theorem sc__law_met : FnScope N__law_met ["_law_leads", "_law_spots_here"] (defScope s__law_met) := ⟨rfl, rfl, rfl, by decide +kernel, rfl, by decide +kernel, by decide +kernel⟩
abbrev s__law_canon : Stmt := topS 26
theorem sc__law_canon : FnScope N__law_canon ["_law_leads", "_law_spots_here"] (defScope s__law_canon) := ⟨rfl, rfl, rfl, by decide +kernel, rfl, by decide +kernel, by decide +kernel⟩
abbrev s__law_spots : Stmt := topS 27
theorem sc__law_spots : FnScope N__law_spots ["_law_items"] (defScope s__law_spots) := ⟨rfl, rfl, rfl, by decide +kernel, rfl, by decide +kernel, by decide +kernel⟩
abbrev s__law_made : Stmt := topS 28
theorem sc__law_made : FnScope N__law_made ["_law_raw_here"] (defScope s__law_made) := ⟨rfl, rfl, rfl, by decide +kernel, rfl, by decide +kernel, by decide +kernel⟩
abbrev s__law_mark : Stmt := topS 29
theorem sc__law_mark : FnScope N__law_mark ["_law_target"] (defScope s__law_mark) := ⟨rfl, rfl, rfl, by decide +kernel, rfl, by decide +kernel, by decide +kernel⟩
abbrev s__law_text : Stmt := topS 30
theorem sc__law_text : FnScope N__law_text ["_law_raw_here"] (defScope s__law_text) := ⟨rfl, rfl, rfl, by decide +kernel, rfl, by decide +kernel, by decide +kernel⟩
abbrev s__law_raw : Stmt := topS 31
theorem sc__law_raw : FnScope N__law_raw ["_law_script", "_law_k", "_law_words", "_law_most"] (defScope s__law_raw) := ⟨rfl, rfl, rfl, by decide +kernel, rfl, by decide +kernel, by decide +kernel⟩
abbrev s__law_turned : Stmt := topS 32
theorem sc__law_turned : FnScope N__law_turned ["_law_raw_here", "_law_by"] (defScope s__law_turned) := ⟨rfl, rfl, rfl, by decide +kernel, rfl, by decide +kernel, by decide +kernel⟩
abbrev s_law : Stmt := topS 33
theorem sc_law : FnScope N_law ["_law_script"] (defScope s_law) := ⟨rfl, rfl, rfl, by decide +kernel, rfl, by decide +kernel, by decide +kernel⟩
structure Fx (w : World) (mg : Str → Option Value) (G : Glb) where
  b_len : mg "len" = none
  b_all : mg "all" = none
  b_tuple : mg "tuple" = none
  b_repr : mg "repr" = none
  b_str : mg "str" = none
  b_isinstance : mg "isinstance" = none
  b_dict : mg "dict" = none
  b_list : mg "list" = none
  b_sorted : mg "sorted" = none
  b_range : mg "range" = none
  b_zip : mg "zip" = none
  b_enumerate : mg "enumerate" = none
  b_min : mg "min" = none
  v_GONE : V
  u_GONE : Value
  m_GONE : mg "GONE" = some u_GONE
  r_GONE : RelV v_GONE u_GONE
  z_GONE : ∀ ρ H, VR G ρ H (.int (-1)) v_GONE
  v_LETTERS : V
  u_LETTERS : Value
  m_LETTERS : mg "LETTERS" = some u_LETTERS
  r_LETTERS : RelV v_LETTERS u_LETTERS
  z_LETTERS : ∀ ρ H, VR G ρ H (.str "abcdefghijklmnopqrstuvwxyz") v_LETTERS
  v_MOST_NAMES : V
  u_MOST_NAMES : Value
  m_MOST_NAMES : mg "MOST_NAMES" = some u_MOST_NAMES
  r_MOST_NAMES : RelV v_MOST_NAMES u_MOST_NAMES
  z_MOST_NAMES : ∀ ρ H, VR G ρ H (.int 6) v_MOST_NAMES
  v_MOST_POINTS : V
  u_MOST_POINTS : Value
  m_MOST_POINTS : mg "MOST_POINTS" = some u_MOST_POINTS
  r_MOST_POINTS : RelV v_MOST_POINTS u_MOST_POINTS
  z_MOST_POINTS : ∀ ρ H, VR G ρ H (.int 200) v_MOST_POINTS
  v_NOTHING : V
  u_NOTHING : Value
  m_NOTHING : mg "NOTHING" = some u_NOTHING
  r_NOTHING : RelV v_NOTHING u_NOTHING
  z_NOTHING : ∀ ρ H, VR G ρ H (.int 0) v_NOTHING
  hA : ∀ c, ClsAll G.K (G.cl c)
  n_leads : ∀ c, NoAttr G.K (G.cl c) "leads"
  n_spots : ∀ c, NoAttr G.K (G.cl c) "spots"
  i_dict : IsT G.K (.type "dict") true
  nd : ∀ c, PySem.W.kitOne G.K (.ref (G.cl c)) (.type "dict") = some false
  i_Web : IsT G.K (.ref (G.cl "Web")) false
  own_Web : PySem.W.kitOne G.K (.ref (G.cl "Web")) (.ref (G.cl "Web")) = some true
  m_Web : mg "Web" = some (.ref (G.cl "Web"))
  f_is_word : Addr
  fd_is_word : FuncData
  F_is_word : FunD G.K "is_word" "is_word" (defArgs s_is_word) (defBody s_is_word) (defScope s_is_word) [] [] f_is_word fd_is_word
  m_is_word : mg "is_word" = some (.ref f_is_word)
  f_need_names : Addr
  fd_need_names : FuncData
  F_need_names : FunD G.K "need_names" "need_names" (defArgs s_need_names) (defBody s_need_names) (defScope s_need_names) [] [] f_need_names fd_need_names
  m_need_names : mg "need_names" = some (.ref f_need_names)
  f_is_item : Addr
  fd_is_item : FuncData
  F_is_item : FunD G.K "is_item" "is_item" (defArgs s_is_item) (defBody s_is_item) (defScope s_is_item) [] [] f_is_item fd_is_item
  m_is_item : mg "is_item" = some (.ref f_is_item)
  f_met_from : Addr
  fd_met_from : FuncData
  F_met_from : FunD G.K "met_from" "met_from" (defArgs s_met_from) (defBody s_met_from) (defScope s_met_from) [] [] f_met_from fd_met_from
  m_met_from : mg "met_from" = some (.ref f_met_from)
  f_Webu_initu : Addr
  fd_Webu_initu : FuncData
  dv_Webu_initu : List V
  dn_Webu_initu : dv_Webu_initu.length = 2
  dz_Webu_initu : ∀ ρ H, VRs G ρ H [(.tup []), (.tup [])] dv_Webu_initu
  F_Webu_initu : FunD G.K "__init__" "Web.__init__" (defArgs s_Webu_initu) (defBody s_Webu_initu) (defScope s_Webu_initu) dv_Webu_initu [] f_Webu_initu fd_Webu_initu
  a_Webu_initu : PySem.W.findIn G.K (.ref (G.cl "Web")) "__init__" = some (some (.ref f_Webu_initu))
  g_Webu_initu : PySem.W.isFn G.K (.ref f_Webu_initu) = true
  f_Webu_equ : Addr
  fd_Webu_equ : FuncData
  F_Webu_equ : FunD G.K "__eq__" "Web.__eq__" (defArgs s_Webu_equ) (defBody s_Webu_equ) (defScope s_Webu_equ) [] [] f_Webu_equ fd_Webu_equ
  a_Webu_equ : PySem.W.findIn G.K (.ref (G.cl "Web")) "__eq__" = some (some (.ref f_Webu_equ))
  g_Webu_equ : PySem.W.isFn G.K (.ref f_Webu_equ) = true
  f_Webu_lenu : Addr
  fd_Webu_lenu : FuncData
  F_Webu_lenu : FunD G.K "__len__" "Web.__len__" (defArgs s_Webu_lenu) (defBody s_Webu_lenu) (defScope s_Webu_lenu) [] [] f_Webu_lenu fd_Webu_lenu
  a_Webu_lenu : PySem.W.findIn G.K (.ref (G.cl "Web")) "__len__" = some (some (.ref f_Webu_lenu))
  g_Webu_lenu : PySem.W.isFn G.K (.ref f_Webu_lenu) = true
  f_Webu_repru : Addr
  fd_Webu_repru : FuncData
  F_Webu_repru : FunD G.K "__repr__" "Web.__repr__" (defArgs s_Webu_repru) (defBody s_Webu_repru) (defScope s_Webu_repru) [] [] f_Webu_repru fd_Webu_repru
  a_Webu_repru : PySem.W.findIn G.K (.ref (G.cl "Web")) "__repr__" = some (some (.ref f_Webu_repru))
  g_Webu_repru : PySem.W.isFn G.K (.ref f_Webu_repru) = true
  f_Web_is_heap : Addr
  fd_Web_is_heap : FuncData
  F_Web_is_heap : FunD G.K "is_heap" "Web.is_heap" (defArgs s_Web_is_heap) (defBody s_Web_is_heap) (defScope s_Web_is_heap) [] [] f_Web_is_heap fd_Web_is_heap
  a_Web_is_heap : PySem.W.findIn G.K (.ref (G.cl "Web")) "is_heap" = some (some (.ref f_Web_is_heap))
  g_Web_is_heap : PySem.W.isFn G.K (.ref f_Web_is_heap) = true
  f_mark : Addr
  fd_mark : FuncData
  F_mark : FunD G.K "mark" "mark" (defArgs s_mark) (defBody s_mark) (defScope s_mark) [] [] f_mark fd_mark
  m_mark : mg "mark" = some (.ref f_mark)
  f_web_text : Addr
  fd_web_text : FuncData
  F_web_text : FunD G.K "web_text" "web_text" (defArgs s_web_text) (defBody s_web_text) (defScope s_web_text) [] [] f_web_text fd_web_text
  m_web_text : mg "web_text" = some (.ref f_web_text)
  f__law_cell : Addr
  fd__law_cell : FuncData
  F__law_cell : FunD G.K "_law_cell" "_law_cell" (defArgs s__law_cell) (defBody s__law_cell) (defScope s__law_cell) [] [] f__law_cell fd__law_cell
  m__law_cell : mg "_law_cell" = some (.ref f__law_cell)
  f__law_digits : Addr
  fd__law_digits : FuncData
  F__law_digits : FunD G.K "_law_digits" "_law_digits" (defArgs s__law_digits) (defBody s__law_digits) (defScope s__law_digits) [] [] f__law_digits fd__law_digits
  m__law_digits : mg "_law_digits" = some (.ref f__law_digits)
  f__law_same : Addr
  fd__law_same : FuncData
  F__law_same : FunD G.K "_law_same" "_law_same" (defArgs s__law_same) (defBody s__law_same) (defScope s__law_same) [] [] f__law_same fd__law_same
  m__law_same : mg "_law_same" = some (.ref f__law_same)
  f__law_names : Addr
  fd__law_names : FuncData
  F__law_names : FunD G.K "_law_names" "_law_names" (defArgs s__law_names) (defBody s__law_names) (defScope s__law_names) [] [] f__law_names fd__law_names
  m__law_names : mg "_law_names" = some (.ref f__law_names)
  f__law_met : Addr
  fd__law_met : FuncData
  F__law_met : FunD G.K "_law_met" "_law_met" (defArgs s__law_met) (defBody s__law_met) (defScope s__law_met) [] [] f__law_met fd__law_met
  m__law_met : mg "_law_met" = some (.ref f__law_met)
  f__law_canon : Addr
  fd__law_canon : FuncData
  F__law_canon : FunD G.K "_law_canon" "_law_canon" (defArgs s__law_canon) (defBody s__law_canon) (defScope s__law_canon) [] [] f__law_canon fd__law_canon
  m__law_canon : mg "_law_canon" = some (.ref f__law_canon)
  f__law_spots : Addr
  fd__law_spots : FuncData
  F__law_spots : FunD G.K "_law_spots" "_law_spots" (defArgs s__law_spots) (defBody s__law_spots) (defScope s__law_spots) [] [] f__law_spots fd__law_spots
  m__law_spots : mg "_law_spots" = some (.ref f__law_spots)
  f__law_made : Addr
  fd__law_made : FuncData
  F__law_made : FunD G.K "_law_made" "_law_made" (defArgs s__law_made) (defBody s__law_made) (defScope s__law_made) [] [] f__law_made fd__law_made
  m__law_made : mg "_law_made" = some (.ref f__law_made)
  f__law_mark : Addr
  fd__law_mark : FuncData
  F__law_mark : FunD G.K "_law_mark" "_law_mark" (defArgs s__law_mark) (defBody s__law_mark) (defScope s__law_mark) [] [] f__law_mark fd__law_mark
  m__law_mark : mg "_law_mark" = some (.ref f__law_mark)
  f__law_text : Addr
  fd__law_text : FuncData
  F__law_text : FunD G.K "_law_text" "_law_text" (defArgs s__law_text) (defBody s__law_text) (defScope s__law_text) [] [] f__law_text fd__law_text
  m__law_text : mg "_law_text" = some (.ref f__law_text)
  f__law_raw : Addr
  fd__law_raw : FuncData
  F__law_raw : FunD G.K "_law_raw" "_law_raw" (defArgs s__law_raw) (defBody s__law_raw) (defScope s__law_raw) [] [] f__law_raw fd__law_raw
  m__law_raw : mg "_law_raw" = some (.ref f__law_raw)
  f__law_turned : Addr
  fd__law_turned : FuncData
  F__law_turned : FunD G.K "_law_turned" "_law_turned" (defArgs s__law_turned) (defBody s__law_turned) (defScope s__law_turned) [] [] f__law_turned fd__law_turned
  m__law_turned : mg "_law_turned" = some (.ref f__law_turned)
  f_law : Addr
  fd_law : FuncData
  F_law : FunD G.K "law" "law" (defArgs s_law) (defBody s_law) (defScope s_law) [] [] f_law fd_law
  m_law : mg "law" = some (.ref f_law)
  mk_Web : PySem.W.makesIn G.K (G.cl "Web") = true
  kc_Web : PySem.W.keepIn G.K (.ref (G.cl "Web")) = true
  ne_Web : PySem.W.findIn G.K (.ref (G.cl "Web")) "__ne__" = some (some (.builtin "object.__ne__"))
  nf_Web : ∀ T : String, T = "list" ∨ T = "str" ∨ T = "tuple" → PySem.W.notFirst G.K (G.cl "Web") (.type T) = true
theorem Fx.hC {w : World} {mg : Str → Option Value} {G : Glb} (R : Fx w mg G) (c : Str) : Cls G.K (G.cl c) := (R.hA c).cls
structure All (P : Program) (w : World) (mg : Str → Option Value) (base : Heap) (G : Glb) (M : Mach) (k : Nat) : Prop where
  c_is_word : Cal P w G.K mg base G M k "is_word" "is_word" 3
  c_need_names : Cal P w G.K mg base G M k "need_names" "need_names" 1
  c_is_item : Cal P w G.K mg base G M k "is_item" "is_item" 3
  c_met_from : Cal P w G.K mg base G M k "met_from" "met_from" 2
  n_Web_0_ : Mak P w G.K mg base G M k "Web" "Web" 0 [] [(.tup []), (.tup [])]
  n_Web_2_ : Mak P w G.K mg base G M k "Web" "Web" 2 [] []
  e_Web : EqM P w G.K mg base G M k "Web"
  l_Web : LnM P w G.K mg base G M k "Web"
  r_Web : RpM P w G.K mg base G M k "Web"
  m_Web_is_heap : Met P w G.K mg base G M k "Web" "is_heap" 1
  c_mark : Cal P w G.K mg base G M k "mark" "mark" 1
  c_web_text : Cal P w G.K mg base G M k "web_text" "web_text" 2
  c__law_cell : Cal P w G.K mg base G M k "_law_cell" "_law_cell" 2
  c__law_digits : Cal P w G.K mg base G M k "_law_digits" "_law_digits" 3
  c__law_same : Cal P w G.K mg base G M k "_law_same" "_law_same" 2
  c__law_names : Cal P w G.K mg base G M k "_law_names" "_law_names" 3
  c__law_met : Cal P w G.K mg base G M k "_law_met" "_law_met" 2
  c__law_canon : Cal P w G.K mg base G M k "_law_canon" "_law_canon" 2
  c__law_spots : Cal P w G.K mg base G M k "_law_spots" "_law_spots" 1
  c__law_made : Cal P w G.K mg base G M k "_law_made" "_law_made" 1
  c__law_mark : Cal P w G.K mg base G M k "_law_mark" "_law_mark" 1
  c__law_text : Cal P w G.K mg base G M k "_law_text" "_law_text" 1
  c__law_raw : Cal P w G.K mg base G M k "_law_raw" "_law_raw" 4
  c__law_turned : Cal P w G.K mg base G M k "_law_turned" "_law_turned" 2
section
variable {P : Program} {w : World} {mg : Str → Option Value} {base : Heap} {G : Glb} {M : Mach} {k : Nat}
theorem all_of (R : Fx w mg G) (h_is_word : FnG P w G.K mg base k R.f_is_word R.fd_is_word ["text", "least", "most"] (spI G M 3 "is_word")) (h_need_names : FnG P w G.K mg base k R.f_need_names R.fd_need_names ["names"] (spI G M 1 "need_names")) (h_is_item : FnG P w G.K mg base k R.f_is_item R.fd_is_item ["word", "targets", "many"] (spI G M 3 "is_item")) (h_met_from : FnG P w G.K mg base k R.f_met_from R.fd_met_from ["names", "items"] (spI G M 2 "met_from")) (h_Webu_initu : FnG P w G.K mg base k R.f_Webu_initu R.fd_Webu_initu ["self", "names", "items"] (spI G M 3 (dot "Web" "__init__"))) (h_Webu_equ : FnG P w G.K mg base k R.f_Webu_equ R.fd_Webu_equ ["self", "other"] (spI G M 2 (dot "Web" "__eq__"))) (h_Webu_lenu : FnG P w G.K mg base k R.f_Webu_lenu R.fd_Webu_lenu ["self"] (spI G M 1 (dot "Web" "__len__"))) (h_Webu_repru : FnG P w G.K mg base k R.f_Webu_repru R.fd_Webu_repru ["self"] (spI G M 1 (dot "Web" "__repr__"))) (h_Web_is_heap : FnG P w G.K mg base k R.f_Web_is_heap R.fd_Web_is_heap ["self"] (spI G M 1 (dot "Web" "is_heap"))) (h_mark : FnG P w G.K mg base k R.f_mark R.fd_mark ["target"] (spI G M 1 "mark")) (h_web_text : FnG P w G.K mg base k R.f_web_text R.fd_web_text ["leads", "spots"] (spI G M 2 "web_text")) (h__law_cell : FnG P w G.K mg base k R.f__law_cell R.fd__law_cell ["_law_script", "_law_k"] (spI G M 2 "_law_cell")) (h__law_digits : FnG P w G.K mg base k R.f__law_digits R.fd__law_digits ["_law_script", "_law_k", "_law_sizes"] (spI G M 3 "_law_digits")) (h__law_same : FnG P w G.K mg base k R.f__law_same R.fd__law_same ["_law_one", "_law_other"] (spI G M 2 "_law_same")) (h__law_names : FnG P w G.K mg base k R.f__law_names R.fd__law_names ["_law_script", "_law_k", "_law_many"] (spI G M 3 "_law_names")) (h__law_met : FnG P w G.K mg base k R.f__law_met R.fd__law_met ["_law_leads", "_law_spots_here"] (spI G M 2 "_law_met")) (h__law_canon : FnG P w G.K mg base k R.f__law_canon R.fd__law_canon ["_law_leads", "_law_spots_here"] (spI G M 2 "_law_canon")) (h__law_spots : FnG P w G.K mg base k R.f__law_spots R.fd__law_spots ["_law_items"] (spI G M 1 "_law_spots")) (h__law_made : FnG P w G.K mg base k R.f__law_made R.fd__law_made ["_law_raw_here"] (spI G M 1 "_law_made")) (h__law_mark : FnG P w G.K mg base k R.f__law_mark R.fd__law_mark ["_law_target"] (spI G M 1 "_law_mark")) (h__law_text : FnG P w G.K mg base k R.f__law_text R.fd__law_text ["_law_raw_here"] (spI G M 1 "_law_text")) (h__law_raw : FnG P w G.K mg base k R.f__law_raw R.fd__law_raw ["_law_script", "_law_k", "_law_words", "_law_most"] (spI G M 4 "_law_raw")) (h__law_turned : FnG P w G.K mg base k R.f__law_turned R.fd__law_turned ["_law_raw_here", "_law_by"] (spI G M 2 "_law_turned")) : All P w mg base G M k where
  c_is_word := ⟨R.f_is_word, R.fd_is_word, _, h_is_word, R.m_is_word, R.F_is_word.kp, (bnd0 R.F_is_word fun _ _ _ _ _ _ us hl => match us, hl with | [_, _, _], _ => rfl)⟩
  c_need_names := ⟨R.f_need_names, R.fd_need_names, _, h_need_names, R.m_need_names, R.F_need_names.kp, (bnd0 R.F_need_names fun _ _ _ _ _ _ us hl => match us, hl with | [_], _ => rfl)⟩
  c_is_item := ⟨R.f_is_item, R.fd_is_item, _, h_is_item, R.m_is_item, R.F_is_item.kp, (bnd0 R.F_is_item fun _ _ _ _ _ _ us hl => match us, hl with | [_, _, _], _ => rfl)⟩
  c_met_from := ⟨R.f_met_from, R.fd_met_from, _, h_met_from, R.m_met_from, R.F_met_from.kp, (bnd0 R.F_met_from fun _ _ _ _ _ _ us hl => match us, hl with | [_, _], _ => rfl)⟩
  n_Web_0_ := by
    have hne : R.dv_Webu_initu ≠ [] := fun e => by have := R.dn_Webu_initu; rw [e] at this; simp at this
    obtain ⟨mv, hb⟩ := kbnD R.F_Webu_initu hne 1 0 (ps := ["self", "names", "items"]) (fun T kV doc pm an cdv ct us its l1 l2 => by
      rw [R.dn_Webu_initu] at l2
      match us, its, l1, l2 with
      | [_], [_, _], _, _ => exact ⟨_, rfl, rfl⟩)
    have hl : (R.dv_Webu_initu.drop 0).length = 2 := by rw [List.length_drop, R.dn_Webu_initu]
    exact ⟨R.f_Webu_initu, R.fd_Webu_initu, _, mv, R.dv_Webu_initu.drop 0, h_Webu_initu, ⟨R.mk_Web, R.a_Webu_initu, R.g_Webu_initu, R.kc_Web⟩, R.m_Web, hb, fun ρ H => (R.dz_Webu_initu ρ H).drop 0⟩
  n_Web_2_ := by
    have hne : R.dv_Webu_initu ≠ [] := fun e => by have := R.dn_Webu_initu; rw [e] at this; simp at this
    obtain ⟨mv, hb⟩ := kbnD R.F_Webu_initu hne 3 2 (ps := ["self", "names", "items"]) (fun T kV doc pm an cdv ct us its l1 l2 => by
      rw [R.dn_Webu_initu] at l2
      match us, its, l1, l2 with
      | [_, _, _], [_, _], _, _ => exact ⟨_, rfl, rfl⟩)
    have hl : (R.dv_Webu_initu.drop 2).length = 0 := by rw [List.length_drop, R.dn_Webu_initu]
    exact ⟨R.f_Webu_initu, R.fd_Webu_initu, _, mv, R.dv_Webu_initu.drop 2, h_Webu_initu, ⟨R.mk_Web, R.a_Webu_initu, R.g_Webu_initu, R.kc_Web⟩, R.m_Web, hb, fun ρ H => (R.dz_Webu_initu ρ H).drop 2⟩
  e_Web := ⟨R.f_Webu_equ, R.fd_Webu_equ, _, h_Webu_equ, ⟨R.a_Webu_equ, R.g_Webu_equ, R.ne_Web, (R.hA _).hm, R.nf_Web⟩, (bnd0 R.F_Webu_equ fun _ _ _ _ _ _ us hl => match us, hl with | [_, _], _ => rfl)⟩
  l_Web := ⟨R.f_Webu_lenu, R.fd_Webu_lenu, _, h_Webu_lenu, R.a_Webu_lenu, R.g_Webu_lenu, (bnd0 R.F_Webu_lenu fun _ _ _ _ _ _ us hl => match us, hl with | [_], _ => rfl)⟩
  r_Web := ⟨R.f_Webu_repru, R.fd_Webu_repru, _, h_Webu_repru, R.a_Webu_repru, R.g_Webu_repru, (bnd0 R.F_Webu_repru fun _ _ _ _ _ _ us hl => match us, hl with | [_], _ => rfl)⟩
  m_Web_is_heap := ⟨R.f_Web_is_heap, R.fd_Web_is_heap, _, h_Web_is_heap, R.hC _, ⟨R.a_Web_is_heap, R.g_Web_is_heap, R.F_Web_is_heap.kp⟩, (bnd0 R.F_Web_is_heap fun _ _ _ _ _ _ us hl => match us, hl with | [_], _ => rfl)⟩
  c_mark := ⟨R.f_mark, R.fd_mark, _, h_mark, R.m_mark, R.F_mark.kp, (bnd0 R.F_mark fun _ _ _ _ _ _ us hl => match us, hl with | [_], _ => rfl)⟩
  c_web_text := ⟨R.f_web_text, R.fd_web_text, _, h_web_text, R.m_web_text, R.F_web_text.kp, (bnd0 R.F_web_text fun _ _ _ _ _ _ us hl => match us, hl with | [_, _], _ => rfl)⟩
  c__law_cell := ⟨R.f__law_cell, R.fd__law_cell, _, h__law_cell, R.m__law_cell, R.F__law_cell.kp, (bnd0 R.F__law_cell fun _ _ _ _ _ _ us hl => match us, hl with | [_, _], _ => rfl)⟩
  c__law_digits := ⟨R.f__law_digits, R.fd__law_digits, _, h__law_digits, R.m__law_digits, R.F__law_digits.kp, (bnd0 R.F__law_digits fun _ _ _ _ _ _ us hl => match us, hl with | [_, _, _], _ => rfl)⟩
  c__law_same := ⟨R.f__law_same, R.fd__law_same, _, h__law_same, R.m__law_same, R.F__law_same.kp, (bnd0 R.F__law_same fun _ _ _ _ _ _ us hl => match us, hl with | [_, _], _ => rfl)⟩
  c__law_names := ⟨R.f__law_names, R.fd__law_names, _, h__law_names, R.m__law_names, R.F__law_names.kp, (bnd0 R.F__law_names fun _ _ _ _ _ _ us hl => match us, hl with | [_, _, _], _ => rfl)⟩
  c__law_met := ⟨R.f__law_met, R.fd__law_met, _, h__law_met, R.m__law_met, R.F__law_met.kp, (bnd0 R.F__law_met fun _ _ _ _ _ _ us hl => match us, hl with | [_, _], _ => rfl)⟩
  c__law_canon := ⟨R.f__law_canon, R.fd__law_canon, _, h__law_canon, R.m__law_canon, R.F__law_canon.kp, (bnd0 R.F__law_canon fun _ _ _ _ _ _ us hl => match us, hl with | [_, _], _ => rfl)⟩
  c__law_spots := ⟨R.f__law_spots, R.fd__law_spots, _, h__law_spots, R.m__law_spots, R.F__law_spots.kp, (bnd0 R.F__law_spots fun _ _ _ _ _ _ us hl => match us, hl with | [_], _ => rfl)⟩
  c__law_made := ⟨R.f__law_made, R.fd__law_made, _, h__law_made, R.m__law_made, R.F__law_made.kp, (bnd0 R.F__law_made fun _ _ _ _ _ _ us hl => match us, hl with | [_], _ => rfl)⟩
  c__law_mark := ⟨R.f__law_mark, R.fd__law_mark, _, h__law_mark, R.m__law_mark, R.F__law_mark.kp, (bnd0 R.F__law_mark fun _ _ _ _ _ _ us hl => match us, hl with | [_], _ => rfl)⟩
  c__law_text := ⟨R.f__law_text, R.fd__law_text, _, h__law_text, R.m__law_text, R.F__law_text.kp, (bnd0 R.F__law_text fun _ _ _ _ _ _ us hl => match us, hl with | [_], _ => rfl)⟩
  c__law_raw := ⟨R.f__law_raw, R.fd__law_raw, _, h__law_raw, R.m__law_raw, R.F__law_raw.kp, (bnd0 R.F__law_raw fun _ _ _ _ _ _ us hl => match us, hl with | [_, _, _, _], _ => rfl)⟩
  c__law_turned := ⟨R.f__law_turned, R.fd__law_turned, _, h__law_turned, R.m__law_turned, R.F__law_turned.kp, (bnd0 R.F__law_turned fun _ _ _ _ _ _ us hl => match us, hl with | [_, _], _ => rfl)⟩
end
section
variable {P : Program} {w : World} {mg : Str → Option Value} {base : Heap} {G : Glb} {n : Nat}
theorem ok_is_word (R : Fx w mg G) (A : All P w mg base G (Mn n) (4 * n)) : FnG P w G.K mg base (4 * n + 4) R.f_is_word R.fd_is_word ["text", "least", "most"] (spI G (Mn (n + 1)) 3 "is_word") := by
  refine g_of2 (k := 4 * n + 3) (d := d_is_word) R.F_is_word sc_is_word (u_is_word n) rfl rfl fun cdv AA outer s H E g3 hp tk => ?_
  have g1 := g3.le (show 4 * n + 1 ≤ 4 * n + 3 by omega)
  exact (PSs.cons_ (ps_reti (pe_bandi (ch3v g1 (xv 1) (pe_b1i g1 .len (by rfl) R.b_len (xv 0)) (xv 2)) (xone (pe_b1i g1 .all (by rfl) R.b_all (pe_inli (pf_comp (own := [("sign", 3)]) g1 (by decide) (pi_charsi g1 (xv 0)) (blkOk_by (own := [("sign", 3)]) (N := N_is_word) (sc := defScope s_is_word) (by decide +kernel)) (fun _ _ _ _ _ => (gn (g1.blk _ _ _ _ _) 3)) (fun _ _ _ _ _ => pts_no) (fun _ _ _ _ _ => (cpv (g1.blk _ _ _ _ _) .In (xv 3) (xgl R.m_LETTERS R.r_LETTERS R.z_LETTERS))))))))) PSs.nil_)
theorem ok_need_names (R : Fx w mg G) (A : All P w mg base G (Mn n) (4 * n)) : FnG P w G.K mg base (4 * n + 4) R.f_need_names R.fd_need_names ["names"] (spI G (Mn (n + 1)) 1 "need_names") := by
  refine g_of2 (k := 4 * n + 3) (d := d_need_names) R.F_need_names sc_need_names (u_need_names n) rfl rfl fun cdv AA outer s H E g3 hp tk => ?_
  have g1 := g3.le (show 4 * n + 1 ≤ 4 * n + 3 by omega)
  exact (PSs.cons_ (ps_asgi (pe_alci pf_dct0) (gn g1 1)) (PSs.cons_ (ps_fori g1 hp (pi_sqi g1 (xv 0)) (pg_tp g1 (pgs_c (gn g1 2) (pgs_c (gn g1 3) pgs_n))) (PSs.cons_ (ps_ifi (pw_ori (pt_noti (tv (cv g1 A.c_is_word tk (pac (xv 2) (pac xint (pa1 xint)))))) (pw_or1i (cpt g1 .In (xv 2) (xv 1)))).pt (PSs.cons_ ps_badi PSs.nil_) PSs.nil_) (PSs.cons_ (ps_iseti g1 xbool (xv 1) (xv 2)) PSs.nil_))) PSs.nil_))
theorem ok_is_item (R : Fx w mg G) (A : All P w mg base G (Mn n) (4 * n)) : FnG P w G.K mg base (4 * n + 4) R.f_is_item R.fd_is_item ["word", "targets", "many"] (spI G (Mn (n + 1)) 3 "is_item") := by
  refine g_of2 (k := 4 * n + 3) (d := d_is_item) R.F_is_item sc_is_item (u_is_item n) rfl rfl fun cdv AA outer s H E g3 hp tk => ?_
  have g1 := g3.le (show 4 * n + 1 ≤ 4 * n + 3 by omega)
  exact (PSs.cons_ (ps_ifi (cpt g1 .Eq (xv 0) xstr) (PSs.cons_ (ps_asgi (cpv g1 .Eq (pe_b1i g1 .len (by rfl) R.b_len (xv 1)) xint) (gn g1 3)) PSs.nil_) (PSs.cons_ (ps_asgi (pe_bandi (cv g1 A.c_is_word tk (pac (xv 0) (pac xint (pa1 xint)))) (xone (cpv g1 .LtE (pe_b1i g1 .len (by rfl) R.b_len (xv 1)) xint))) (gn g1 3)) PSs.nil_)) (PSs.cons_ (ps_reti (pe_bandi (xv 3) (xone (pe_b1i g1 .all (by rfl) R.b_all (pe_inli (pf_comp (own := [("target", 4)]) g1 (by decide) (pi_sqi g1 (xv 1)) (blkOk_by (own := [("target", 4)]) (N := N_is_item) (sc := defScope s_is_item) (by decide +kernel)) (fun _ _ _ _ _ => (gn (g1.blk _ _ _ _ _) 4)) (fun _ _ _ _ _ => pts_no) (fun _ _ _ _ _ => (ch3v (g1.blk _ _ _ _ _) (xgl R.m_GONE R.r_GONE R.z_GONE) (xv 4) (xv 2))))))))) PSs.nil_))
theorem ok_met_from (R : Fx w mg G) (A : All P w mg base G (Mn n) (4 * n)) : FnG P w G.K mg base (4 * n + 4) R.f_met_from R.fd_met_from ["names", "items"] (spI G (Mn (n + 1)) 2 "met_from") := by
  refine g_of2 (k := 4 * n + 3) (d := d_met_from) R.F_met_from sc_met_from (u_met_from n) rfl rfl fun cdv AA outer s H E g3 hp tk => ?_
  have g1 := g3.le (show 4 * n + 1 ≤ 4 * n + 3 by omega)
  exact (PSs.cons_ (ps_asgi (pe_alci (pf_lst pa_nili)) (gn g1 2)) (PSs.cons_ (ps_asgi (pe_alci (pf_dspk g1 (pps_cons (xkey R.m_NOTHING R.r_NOTHING R.z_NOTHING) xbool (pps_cons (xkey R.m_GONE R.r_GONE R.z_GONE) xbool pps_nil)) rfl rfl rfl (by decide) (by decide))) (gn g1 3)) (PSs.cons_ (ps_fori g1 hp (pi_sqi g1 (pe_inli (pf_srtp g1 (by rfl) R.b_sorted (xv 0)))) (pg_tp g1 (pgs_c (gn g1 4) (pgs_c (gn g1 5) pgs_n))) (PSs.cons_ (ps_ifi (cpt g1 .NotIn (xv 5) (xv 3)) (PSs.cons_ (ps_iseti g1 xbool (xv 3) (xv 5)) (PSs.cons_ (ps_expri (pe_muti g1 .append (.inl rfl) (xv 2) (pa1 (xv 5)))) PSs.nil_)) PSs.nil_) PSs.nil_)) (PSs.cons_ (ps_asgi xint (gn g1 6)) (PSs.cons_ (ps_whilei g1 hp (cpt g1 .Lt (xv 6) (pe_b1i g1 .len (by rfl) R.b_len (xv 2))) (PSs.cons_ (ps_asgi (ix g1 (xv 1) (pe_bin g1 .Sub (ix g1 (xv 2) (xv 6)) xint)) (pg_tp g1 (pgs_c (gn g1 7) (pgs_c (gn g1 8) pgs_n)))) (PSs.cons_ (ps_augi g1 (.inl rfl) (i := 6) (by rfl) (by first | exact Or.inl rfl | exact Or.inr rfl) xint) (PSs.cons_ (ps_fori g1 hp (pi_sqi g1 (xv 8)) (gn g1 5) (PSs.cons_ (ps_ifi (cpt g1 .NotIn (xv 5) (xv 3)) (PSs.cons_ (ps_iseti g1 xbool (xv 3) (xv 5)) (PSs.cons_ (ps_expri (pe_muti g1 .append (.inl rfl) (xv 2) (pa1 (xv 5)))) PSs.nil_)) PSs.nil_) PSs.nil_)) PSs.nil_)))) (PSs.cons_ (ps_reti (xv 2)) PSs.nil_))))))
theorem ok_Webu_initu (R : Fx w mg G) (A : All P w mg base G (Mn n) (4 * n)) : FnG P w G.K mg base (4 * n + 4) R.f_Webu_initu R.fd_Webu_initu ["self", "names", "items"] (spI G (Mn (n + 1)) 3 (dot "Web" "__init__")) := by
  refine g_of2 (k := 4 * n + 3) (d := d_Webu_initu) R.F_Webu_initu sc_Webu_initu (u_Webu_initu n) rfl rfl fun cdv AA outer s H E g3 hp tk => ?_
  have g1 := g3.le (show 4 * n + 1 ≤ 4 * n + 3 by omega)
  exact (PSs.cons_ (ps_expri (cv g1 A.c_need_names tk (pa1 (xv 1)))) (PSs.cons_ (ps_fori g1 hp (pi_enmi g1 (by rfl) R.b_enumerate (pa1 (xv 2))) (pg_tp g1 (pgs_c (gn g1 3) (pgs_c (pg_tp g1 (pgs_c (gn g1 4) (pgs_c (gn g1 5) pgs_n))) pgs_n))) (PSs.cons_ (ps_ifi (pt_noti (tv (cv g1 A.c_is_item tk (pac (xv 4) (pac (xv 5) (pa1 (pe_b1i g1 .len (by rfl) R.b_len (xv 2)))))))) (PSs.cons_ ps_badi PSs.nil_) PSs.nil_) PSs.nil_)) (PSs.cons_ (ps_ifi (pt_noti (tv (pe_b1i g1 .all (by rfl) R.b_all (pe_inli (pf_comp (own := [("name", 6), ("target", 7)]) g1 (by decide) (pi_sqi g1 (xv 1)) (blkOk_by (own := [("name", 6), ("target", 7)]) (N := N_Webu_initu) (sc := defScope s_Webu_initu) (by decide +kernel)) (fun _ _ _ _ _ => (pg_tp (g1.blk _ _ _ _ _) (pgs_c (gn (g1.blk _ _ _ _ _) 6) (pgs_c (gn (g1.blk _ _ _ _ _) 7) pgs_n)))) (fun _ _ _ _ _ => pts_no) (fun _ _ _ _ _ => (ch3v (g1.blk _ _ _ _ _) (xgl R.m_GONE R.r_GONE R.z_GONE) (xv 7) (pe_b1i (g1.blk _ _ _ _ _) .len (by rfl) R.b_len (xv 2))))))))) (PSs.cons_ ps_badi PSs.nil_) PSs.nil_) (PSs.cons_ (ps_ifi (pw_ori (cpt g1 .Gt (pe_b1i g1 .len (by rfl) R.b_len (xv 1)) (xgl R.m_MOST_NAMES R.r_MOST_NAMES R.z_MOST_NAMES)) (pw_or1i (cpt g1 .Gt (pe_b1i g1 .len (by rfl) R.b_len (xv 2)) (xgl R.m_MOST_POINTS R.r_MOST_POINTS R.z_MOST_POINTS)))).pt (PSs.cons_ ps_badi PSs.nil_) PSs.nil_) (PSs.cons_ (ps_asgi (cv g1 A.c_met_from tk (pac (xv 1) (pa1 (xv 2)))) (gn g1 8)) (PSs.cons_ (ps_ifi (cpt g1 .Lt (pe_b1i g1 .len (by rfl) R.b_len (xv 8)) (pe_b1i g1 .len (by rfl) R.b_len (xv 2))) (PSs.cons_ ps_badi PSs.nil_) PSs.nil_) (PSs.cons_ (ps_asgi (pe_alci (pf_dcomp (own := [("at", 10), ("point", 11)]) g1 (by decide) (pi_enmKi g1 (by decide) (by decide) (by rfl) R.b_enumerate (pa1 (xv 8))) (blkOk_by (own := [("at", 10), ("point", 11)]) (N := N_Webu_initu) (sc := defScope s_Webu_initu) (by decide +kernel)) (fun _ _ _ _ _ => (pg_tp (g1.blk _ _ _ _ _) (pgs_c (gn (g1.blk _ _ _ _ _) 10) (pgs_c (gn (g1.blk _ _ _ _ _) 11) pgs_n)))) (fun _ _ _ _ _ => pts_no) (fun _ _ _ _ _ => (xv 11)) (fun _ _ _ _ _ => (xv 10)))) (gn g1 9)) (PSs.cons_ (ps_iset2i g1 (pe_tupi (pac (xgl R.m_NOTHING R.r_NOTHING R.z_NOTHING) (pa1 (xgl R.m_GONE R.r_GONE R.z_GONE)))) (xv 9) (xgl R.m_NOTHING R.r_NOTHING R.z_NOTHING) (xv 9) (xgl R.m_GONE R.r_GONE R.z_GONE)) (PSs.cons_ (ps_fseti g1 R.hC R.n_leads (xv 0) (pe_inli (pf_dcomp (own := [("name", 6), ("target", 7)]) g1 (by decide) (pi_sqi g1 (pe_inli (pf_srtp g1 (by rfl) R.b_sorted (xv 1)))) (blkOk_by (own := [("name", 6), ("target", 7)]) (N := N_Webu_initu) (sc := defScope s_Webu_initu) (by decide +kernel)) (fun _ _ _ _ _ => (pg_tp (g1.blk _ _ _ _ _) (pgs_c (gn (g1.blk _ _ _ _ _) 6) (pgs_c (gn (g1.blk _ _ _ _ _) 7) pgs_n)))) (fun _ _ _ _ _ => pts_no) (fun _ _ _ _ _ => (xv 6)) (fun _ _ _ _ _ => (ix (g1.blk _ _ _ _ _) (xv 9) (xv 7))))) (by rfl)) (PSs.cons_ (ps_fseti g1 R.hC R.n_spots (xv 0) (pe_inli (pf_comp (own := [("point", 11)]) g1 (by decide) (pi_sqi g1 (xv 8)) (blkOk_by (own := [("point", 11)]) (N := N_Webu_initu) (sc := defScope s_Webu_initu) (by decide +kernel)) (fun _ _ _ _ _ => (gn (g1.blk _ _ _ _ _) 11)) (fun _ _ _ _ _ => pts_no) (fun _ _ _ _ _ => (pe_tupi (pac (ix (g1.blk _ _ _ _ _) (ix (g1.blk _ _ _ _ _) (xv 2) (pe_bin (g1.blk _ _ _ _ _) .Sub (xv 11) xint)) xint) (pa1 (pe_b1i (g1.blk _ _ _ _ _) .tuple (by rfl) R.b_tuple (pe_inli (pf_comp (own := [("one", 12)]) (g1.blk _ _ _ _ _) (by decide) (pi_sqi (g1.blk _ _ _ _ _) (ix (g1.blk _ _ _ _ _) (ix (g1.blk _ _ _ _ _) (xv 2) (pe_bin (g1.blk _ _ _ _ _) .Sub (xv 11) xint)) xint)) (blkOk_by (own := [("one", 12)]) (N := N_Webu_initu) (sc := Oz.relS ⟨.function, [(".0", .local), ("point", .local), ("tuple", .globalImplicit), ("anew", .free), ("items", .free)], false, false, []⟩ (defScope s_Webu_initu)) (by decide +kernel)) (fun _ _ _ _ _ => (gn ((g1.blk _ _ _ _ _).blk _ _ _ _ _) 12)) (fun _ _ _ _ _ => pts_no) (fun _ _ _ _ _ => (ix ((g1.blk _ _ _ _ _).blk _ _ _ _ _) (xv 9) (xv 12)))))))))))) (by rfl)) PSs.nil_))))))))))
theorem ok_Webu_equ (R : Fx w mg G) (A : All P w mg base G (Mn n) (4 * n)) : FnG P w G.K mg base (4 * n + 4) R.f_Webu_equ R.fd_Webu_equ ["self", "other"] (spI G (Mn (n + 1)) 2 (dot "Web" "__eq__")) := by
  refine g_of2 (k := 4 * n + 3) (d := d_Webu_equ) R.F_Webu_equ sc_Webu_equ (u_Webu_equ n) rfl rfl fun cdv AA outer s H E g3 hp tk => ?_
  have g1 := g3.le (show 4 * n + 1 ≤ 4 * n + 3 by omega)
  exact (PSs.cons_ (ps_reti (pe_bandi (pe_isCi g1 R.hA R.i_Web R.own_Web (by rfl) R.b_isinstance (xv 1) (pe_glob (by rfl) R.m_Web rfl)) (pe_bandi (cpv g1 .Eq (pe_fldi g1 R.hC R.n_leads (xv 0) (by rfl)) (pe_fldi g1 R.hC R.n_leads (xv 1) (by rfl))) (xone (cpv g1 .Eq (pe_fldi g1 R.hC R.n_spots (xv 0) (by rfl)) (pe_fldi g1 R.hC R.n_spots (xv 1) (by rfl))))))) PSs.nil_)
theorem ok_Webu_lenu (R : Fx w mg G) (A : All P w mg base G (Mn n) (4 * n)) : FnG P w G.K mg base (4 * n + 4) R.f_Webu_lenu R.fd_Webu_lenu ["self"] (spI G (Mn (n + 1)) 1 (dot "Web" "__len__")) := by
  refine g_of2 (k := 4 * n + 3) (d := d_Webu_lenu) R.F_Webu_lenu sc_Webu_lenu (u_Webu_lenu n) rfl rfl fun cdv AA outer s H E g3 hp tk => ?_
  have g1 := g3.le (show 4 * n + 1 ≤ 4 * n + 3 by omega)
  exact (PSs.cons_ (ps_reti (pe_b1i g1 .len (by rfl) R.b_len (pe_fldi g1 R.hC R.n_spots (xv 0) (by rfl)))) PSs.nil_)
theorem ok_Webu_repru (R : Fx w mg G) (A : All P w mg base G (Mn n) (4 * n)) : FnG P w G.K mg base (4 * n + 4) R.f_Webu_repru R.fd_Webu_repru ["self"] (spI G (Mn (n + 1)) 1 (dot "Web" "__repr__")) := by
  refine g_of2 (k := 4 * n + 3) (d := d_Webu_repru) R.F_Webu_repru sc_Webu_repru (u_Webu_repru n) rfl rfl fun cdv AA outer s H E g3 hp tk => ?_
  have g1 := g3.le (show 4 * n + 1 ≤ 4 * n + 3 by omega)
  exact (PSs.cons_ (ps_reti (pe_b1i g1 .str (by rfl) R.b_str (cv g1 A.c_web_text tk (pac (pe_fldi g1 R.hC R.n_leads (xv 0) (by rfl)) (pa1 (pe_fldi g1 R.hC R.n_spots (xv 0) (by rfl))))))) PSs.nil_)
theorem ok_Web_is_heap (R : Fx w mg G) (A : All P w mg base G (Mn n) (4 * n)) : FnG P w G.K mg base (4 * n + 4) R.f_Web_is_heap R.fd_Web_is_heap ["self"] (spI G (Mn (n + 1)) 1 (dot "Web" "is_heap")) := by
  refine g_of2 (k := 4 * n + 3) (d := d_Web_is_heap) R.F_Web_is_heap sc_Web_is_heap (u_Web_is_heap n) rfl rfl fun cdv AA outer s H E g3 hp tk => ?_
  have g1 := g3.le (show 4 * n + 1 ≤ 4 * n + 3 by omega)
  exact (PSs.cons_ (ps_reti (pe_b1i g1 .all (by rfl) R.b_all (pe_inli (pf_comp (own := [("word", 1), ("targets", 2)]) g1 (by decide) (pi_sqi g1 (pe_fldi g1 R.hC R.n_spots (xv 0) (by rfl))) (blkOk_by (own := [("word", 1), ("targets", 2)]) (N := N_Web_is_heap) (sc := defScope s_Web_is_heap) (by decide +kernel)) (fun _ _ _ _ _ => (pg_tp (g1.blk _ _ _ _ _) (pgs_c (gn (g1.blk _ _ _ _ _) 1) (pgs_c (gn (g1.blk _ _ _ _ _) 2) pgs_n)))) (fun _ _ _ _ _ => pts_no) (fun _ _ _ _ _ => (cpv (g1.blk _ _ _ _ _) .Eq (xv 1) xstr)))))) PSs.nil_)
theorem ok_mark (R : Fx w mg G) (A : All P w mg base G (Mn n) (4 * n)) : FnG P w G.K mg base (4 * n + 4) R.f_mark R.fd_mark ["target"] (spI G (Mn (n + 1)) 1 "mark") := by
  refine g_of2 (k := 4 * n + 3) (d := d_mark) R.F_mark sc_mark (u_mark n) rfl rfl fun cdv AA outer s H E g3 hp tk => ?_
  have g1 := g3.le (show 4 * n + 1 ≤ 4 * n + 3 by omega)
  exact (PSs.cons_ (ps_ifi (cpt g1 .Eq (xv 0) (xgl R.m_NOTHING R.r_NOTHING R.z_NOTHING)) (PSs.cons_ (ps_reti xstr) PSs.nil_) PSs.nil_) (PSs.cons_ (ps_reti (pe_itei (cpt g1 .Eq (xv 0) (xgl R.m_GONE R.r_GONE R.z_GONE)) xstr (pe_b1i g1 .str (by rfl) R.b_str (xv 0)))) PSs.nil_))
theorem ok_web_text (R : Fx w mg G) (A : All P w mg base G (Mn n) (4 * n)) : FnG P w G.K mg base (4 * n + 4) R.f_web_text R.fd_web_text ["leads", "spots"] (spI G (Mn (n + 1)) 2 "web_text") := by
  refine g_of2 (k := 4 * n + 3) (d := d_web_text) R.F_web_text sc_web_text (u_web_text n) rfl rfl fun cdv AA outer s H E g3 hp tk => ?_
  have g1 := g3.le (show 4 * n + 1 ≤ 4 * n + 3 by omega)
  exact (PSs.cons_ (ps_setici (own := [("name", 3), ("target", 4)]) g1 (i := 2) (j := 0) (by rfl) (by rfl) (sw_true rfl rfl rfl (by decide +kernel)) (by decide) (by rfl) (by first | exact Or.inl rfl | exact Or.inr (Or.inl rfl) | exact Or.inr (Or.inr rfl)) (by decide) (by decide) (blkOk_by (own := [("name", 3), ("target", 4)]) (N := N_web_text) (sc := defScope s_web_text) (by decide +kernel)) (fun _ _ _ _ _ => (pg_tp (g1.blk _ _ _ _ _) (pgs_c (gn (g1.blk _ _ _ _ _) 3) (pgs_c (gn (g1.blk _ _ _ _ _) 4) pgs_n)))) (fun _ _ _ _ _ => pts_no) (fun _ _ _ _ _ => (pe_fsi (PF.fmt (xv 3) (PF.cst (PF.fmt (cv (g1.blk _ _ _ _ _) A.c_mark takesF (pa1 (xv 4))) PF.nil))))) (by rfl) (by rfl) (by intro _; rfl) false) (PSs.cons_ (ps_fori g1 hp (pi_enmKi g1 (by decide) (by decide) (by rfl) R.b_enumerate (pa1 (xv 1))) (pg_tp g1 (pgs_c (gn g1 5) (pgs_c (pg_tp g1 (pgs_c (gn g1 6) (pgs_c (gn g1 7) pgs_n))) pgs_n))) (PSs.cons_ (ps_asgi (pe_joini g1 xstr (pe_inli (pf_comp (own := [("target", 4)]) g1 (by decide) (pi_sqi g1 (xv 7)) (blkOk_by (own := [("target", 4)]) (N := N_web_text) (sc := defScope s_web_text) (by decide +kernel)) (fun _ _ _ _ _ => (gn (g1.blk _ _ _ _ _) 4)) (fun _ _ _ _ _ => pts_no) (fun _ _ _ _ _ => (cv (g1.blk _ _ _ _ _) A.c_mark takesF (pa1 (xv 4))))))) (gn g1 8)) (PSs.cons_ (ps_expri (pe_muti g1 .append (.inl rfl) (xv 2) (pa1 (pe_fsi (PF.fmt (xv 5) (PF.cst (PF.fmt (xv 6) (PF.cst (PF.fmt (xv 8) (PF.cst PF.nil)))))))))) PSs.nil_))) (PSs.cons_ (ps_reti (pe_itei (cpt g1 .Gt (pe_b1i g1 .len (by rfl) R.b_len (xv 2)) xint) (pe_joini g1 xstr (xv 2)) xstr)) PSs.nil_)))
theorem ok__law_cell (R : Fx w mg G) (A : All P w mg base G (Mn n) (4 * n)) : FnG P w G.K mg base (4 * n + 4) R.f__law_cell R.fd__law_cell ["_law_script", "_law_k"] (spI G (Mn (n + 1)) 2 "_law_cell") := by
  refine g_of2 (k := 4 * n + 3) (d := d__law_cell) R.F__law_cell sc__law_cell (u__law_cell n) rfl rfl fun cdv AA outer s H E g3 hp tk => ?_
  have g1 := g3.le (show 4 * n + 1 ≤ 4 * n + 3 by omega)
  exact (PSs.cons_ (ps_ifi (cpt g1 .Lt (xv 1) (pe_b1i g1 .len (by rfl) R.b_len (xv 0))) (PSs.cons_ (ps_reti (ix g1 (xv 0) (xv 1))) PSs.nil_) PSs.nil_) (PSs.cons_ (ps_asgi xint (gn g1 2)) (PSs.cons_ (ps_fori g1 hp (pi_sqi g1 (xv 0)) (gn g1 3) (PSs.cons_ (ps_asgi (pe_bin g1 .Mod (pe_bin g1 .Add (pe_bin g1 .Mult (xv 2) xint) (xv 3)) xint) (gn g1 2)) PSs.nil_)) (PSs.cons_ (ps_reti (pe_bin g1 .Mod (pe_bin g1 .Mult (pe_bin g1 .Mult (pe_bin g1 .Add (xv 2) xint) (pe_bin g1 .Add (xv 1) xint)) xint) xint)) PSs.nil_))))
theorem ok__law_digits (R : Fx w mg G) (A : All P w mg base G (Mn n) (4 * n)) : FnG P w G.K mg base (4 * n + 4) R.f__law_digits R.fd__law_digits ["_law_script", "_law_k", "_law_sizes"] (spI G (Mn (n + 1)) 3 "_law_digits") := by
  refine g_of2 (k := 4 * n + 3) (d := d__law_digits) R.F__law_digits sc__law_digits (u__law_digits n) rfl rfl fun cdv AA outer s H E g3 hp tk => ?_
  have g1 := g3.le (show 4 * n + 1 ≤ 4 * n + 3 by omega)
  exact (PSs.cons_ (ps_asgi (cv g1 A.c__law_cell tk (pac (xv 0) (pa1 (xv 1)))) (gn g1 3)) (PSs.cons_ (ps_asgi (pe_alci (pf_lst pa_nili)) (gn g1 4)) (PSs.cons_ (ps_ifi (cpt g1 .GtE (xv 3) (pe_bin g1 .Pow xint xint)) (PSs.cons_ (ps_asgi (pe_bin g1 .Sub (xv 3) (pe_bin g1 .Pow xint xint)) (gn g1 5)) (PSs.cons_ (ps_fori g1 hp (pi_sqi g1 (xv 2)) (gn g1 6) (PSs.cons_ (ps_expri (pe_muti g1 .append (.inl rfl) (xv 4) (pa1 (pe_bin g1 .Mod (xv 5) (xv 6))))) (PSs.cons_ (ps_asgi (pe_bin g1 .FloorDiv (xv 5) (xv 6)) (gn g1 5)) PSs.nil_))) (PSs.cons_ (ps_reti (xv 4)) PSs.nil_))) PSs.nil_) (PSs.cons_ (ps_asgi (pe_bin g1 .Mod (xv 3) xint) (gn g1 7)) (PSs.cons_ (ps_fori g1 hp (pi_rng1i (by rfl) R.b_range (pa1 (pe_b1i g1 .len (by rfl) R.b_len (xv 2)))) (gn g1 8) (PSs.cons_ (ps_asgi (pe_bin g1 .Mod (pe_bin g1 .Add (pe_bin g1 .Mult (xv 7) xint) (pe_bin g1 .Mult xint (pe_bin g1 .Add (xv 8) xint))) xint) (gn g1 7)) (PSs.cons_ (ps_asgi (pe_bin g1 .Mod (pe_bin g1 .Add (pe_bin g1 .Add (pe_bin g1 .Mult (xv 7) (xv 7)) (pe_bin g1 .Mult xint (xv 7))) (xv 8)) xint) (gn g1 9)) (PSs.cons_ (ps_expri (pe_muti g1 .append (.inl rfl) (xv 4) (pa1 (pe_bin g1 .Mod (pe_bin g1 .FloorDiv (xv 9) xint) (ix g1 (xv 2) (xv 8)))))) PSs.nil_)))) (PSs.cons_ (ps_reti (xv 4)) PSs.nil_))))))
theorem ok__law_same (R : Fx w mg G) (A : All P w mg base G (Mn n) (4 * n)) : FnG P w G.K mg base (4 * n + 4) R.f__law_same R.fd__law_same ["_law_one", "_law_other"] (spI G (Mn (n + 1)) 2 "_law_same") := by
  refine g_of2 (k := 4 * n + 3) (d := d__law_same) R.F__law_same sc__law_same (u__law_same n) rfl rfl fun cdv AA outer s H E g3 hp tk => ?_
  have g1 := g3.le (show 4 * n + 1 ≤ 4 * n + 3 by omega)
  exact (PSs.cons_ (ps_ifi (tv (pe_isDi g1 R.hA R.i_dict R.nd (by rfl) R.b_isinstance (xv 1) (pe_bltn (by rfl) R.b_dict rfl rfl))) (PSs.cons_ ps_badi PSs.nil_) PSs.nil_) (PSs.cons_ (ps_reti (pe_bandi (cpv g1 .Eq (xv 0) (xv 1)) (xone (cpv g1 .Eq (pe_b1i g1 .repr (by rfl) R.b_repr (xv 0)) (pe_b1i g1 .repr (by rfl) R.b_repr (xv 1)))))) PSs.nil_))
theorem ok__law_names (R : Fx w mg G) (A : All P w mg base G (Mn n) (4 * n)) : FnG P w G.K mg base (4 * n + 4) R.f__law_names R.fd__law_names ["_law_script", "_law_k", "_law_many"] (spI G (Mn (n + 1)) 3 "_law_names") := by
  refine g_of2 (k := 4 * n + 3) (d := d__law_names) R.F__law_names sc__law_names (u__law_names n) rfl rfl fun cdv AA outer s H E g3 hp tk => ?_
  have g1 := g3.le (show 4 * n + 1 ≤ 4 * n + 3 by omega)
  exact (PSs.cons_ (ps_asgi (pe_tupi (pac (pe_alci (pf_lst pa_nili)) (pa1 xstr))) (pg_tp g1 (pgs_c (gn g1 3) (pgs_c (gn g1 4) pgs_n)))) (PSs.cons_ (ps_fori g1 hp (pi_rng1i (by rfl) R.b_range (pa1 (xv 2))) (gn g1 5) (PSs.cons_ (ps_asgi (cv g1 A.c__law_digits tk (pac (xv 0) (pac (pe_bin g1 .Add (xv 1) (pe_bin g1 .Mod (xv 5) xint)) (pa1 (pe_inli (pf_lst (pac xint (pac xint (pac xint (pa1 xint)))))))))) (pg_tp g1 (pgs_c (gn g1 6) (pgs_c (gn g1 7) (pgs_c (gn g1 8) (pgs_c (gn g1 9) pgs_n)))))) (PSs.cons_ (ps_asgi (pe_joini g1 xstr (pe_inli (pf_comp (own := [("_law_i", 11)]) g1 (by decide) (pi_rng1i (by rfl) R.b_range (pa1 (xv 8))) (blkOk_by (own := [("_law_i", 11)]) (N := N__law_names) (sc := defScope s__law_names) (by decide +kernel)) (fun _ _ _ _ _ => (gn (g1.blk _ _ _ _ _) 11)) (fun _ _ _ _ _ => pts_no) (fun _ _ _ _ _ => (ix (g1.blk _ _ _ _ _) (xv 4) (pe_bin (g1.blk _ _ _ _ _) .Mod (pe_bin (g1.blk _ _ _ _ _) .Add (pe_bin (g1.blk _ _ _ _ _) .Add (xv 6) (pe_bin (g1.blk _ _ _ _ _) .Mult (xv 11) (xv 7))) (pe_bin (g1.blk _ _ _ _ _) .Mult xint (xv 5))) xint)))))) (gn g1 10)) (PSs.cons_ (ps_asgi (ix g1 (xv 4) (pe_bin g1 .Mod (pe_bin g1 .Add (pe_bin g1 .Add (xv 6) (pe_bin g1 .Mult xint (xv 5))) xint) xint)) (gn g1 12)) (PSs.cons_ (ps_asgi (pe_bin g1 .Add (pe_bin g1 .Add (pe_slti g1 (xv 10) po_nonei (po_somei (xv 9))) (xv 12)) (pe_slti g1 (xv 10) (po_somei (xv 9)) po_nonei)) (gn g1 13)) (PSs.cons_ (ps_ifi (cpt g1 .In (xv 13) (xv 3)) (PSs.cons_ (ps_setLci (own := [("_law_tail", 15)]) g1 (i := 14) (by rfl) (by rfl) (sw_true rfl rfl rfl (by decide +kernel)) (by decide) (pi_charsi g1 xstr) (blkOk_by (own := [("_law_tail", 15)]) (N := N__law_names) (sc := defScope s__law_names) (by decide +kernel)) (fun _ _ _ _ _ => (gn (g1.blk _ _ _ _ _) 15)) (fun _ _ _ _ _ => pts_no) (fun _ _ _ _ _ => (pe_bin (g1.blk _ _ _ _ _) .Add (pe_bin (g1.blk _ _ _ _ _) .Add xstr (ix (g1.blk _ _ _ _ _) (xv 4) (xv 5))) (xv 15))) (by intro _; rfl) true) (PSs.cons_ (ps_asgi (ix g1 (pe_inli (pf_comp (own := [("_law_one_more", 16)]) g1 (by decide) (pi_sqi g1 (xv 14)) (blkOk_by (own := [("_law_one_more", 16)]) (N := N__law_names) (sc := defScope s__law_names) (by decide +kernel)) (fun _ _ _ _ _ => (gn (g1.blk _ _ _ _ _) 16)) (fun _ _ _ _ _ => (pts_c (cpt (g1.blk _ _ _ _ _) .NotIn (xv 16) (xv 3)))) (fun _ _ _ _ _ => (xv 16)))) xint) (gn g1 13)) PSs.nil_)) PSs.nil_) (PSs.cons_ (ps_expri (pe_muti g1 .append (.inl rfl) (xv 3) (pa1 (xv 13)))) PSs.nil_))))))) (PSs.cons_ (ps_reti (xv 3)) PSs.nil_)))
theorem ok__law_met (R : Fx w mg G) (A : All P w mg base G (Mn n) (4 * n)) : FnG P w G.K mg base (4 * n + 4) R.f__law_met R.fd__law_met ["_law_leads", "_law_spots_here"] (spI G (Mn (n + 1)) 2 "_law_met") := by
  refine g_of2 (k := 4 * n + 3) (d := d__law_met) R.F__law_met sc__law_met (u__law_met n) rfl rfl fun cdv AA outer s H E g3 hp tk => ?_
  have g1 := g3.le (show 4 * n + 1 ≤ 4 * n + 3 by omega)
  exact (PSs.cons_ (ps_asgi (pe_alci (pf_lst pa_nili)) (gn g1 2)) (PSs.cons_ (ps_fori g1 hp (pi_sqi g1 (pe_inli (pf_srtd g1 (by rfl) R.b_sorted (xv 0)))) (gn g1 3) (PSs.cons_ (ps_ifi (pw_andi (cpt g1 .Gt (ix g1 (xv 0) (xv 3)) xint) (pw_and1i (cpt g1 .NotIn (ix g1 (xv 0) (xv 3)) (xv 2)))).pt (PSs.cons_ (ps_expri (pe_muti g1 .append (.inl rfl) (xv 2) (pa1 (ix g1 (xv 0) (xv 3))))) PSs.nil_) PSs.nil_) PSs.nil_)) (PSs.cons_ (ps_fori g1 hp (pi_rng1i (by rfl) R.b_range (pa1 (pe_b1i g1 .len (by rfl) R.b_len (xv 1)))) (gn g1 4) (PSs.cons_ (ps_ifi (cpt g1 .Lt (xv 4) (pe_b1i g1 .len (by rfl) R.b_len (xv 2))) (PSs.cons_ (ps_fori g1 hp (pi_sqi g1 (ix g1 (ix g1 (xv 1) (ix g1 (xv 2) (xv 4))) xint)) (gn g1 5) (PSs.cons_ (ps_ifi (pw_andi (cpt g1 .Gt (xv 5) xint) (pw_and1i (cpt g1 .NotIn (xv 5) (xv 2)))).pt (PSs.cons_ (ps_expri (pe_muti g1 .append (.inl rfl) (xv 2) (pa1 (xv 5)))) PSs.nil_) PSs.nil_) PSs.nil_)) PSs.nil_) PSs.nil_) PSs.nil_)) (PSs.cons_ (ps_reti (xv 2)) PSs.nil_))))
theorem ok__law_canon (R : Fx w mg G) (A : All P w mg base G (Mn n) (4 * n)) : FnG P w G.K mg base (4 * n + 4) R.f__law_canon R.fd__law_canon ["_law_leads", "_law_spots_here"] (spI G (Mn (n + 1)) 2 "_law_canon") := by
  refine g_of2 (k := 4 * n + 3) (d := d__law_canon) R.F__law_canon sc__law_canon (u__law_canon n) rfl rfl fun cdv AA outer s H E g3 hp tk => ?_
  have g1 := g3.le (show 4 * n + 1 ≤ 4 * n + 3 by omega)
  exact (PSs.cons_ (ps_asgi (cv g1 A.c__law_met tk (pac (xv 0) (pa1 (xv 1)))) (gn g1 2)) (PSs.cons_ (ps_asgi (pe_alci (pf_dspk g1 (pps_cons pe_int xint pps_nil) rfl rfl rfl (by decide) (by decide))) (gn g1 3)) (PSs.cons_ (ps_iseti g1 (pe_bin g1 .Sub xint xint) (xv 3) (pe_bin g1 .Sub xint xint)) (PSs.cons_ (ps_fori g1 hp (pi_rng1i (by rfl) R.b_range (pa1 (pe_b1i g1 .len (by rfl) R.b_len (xv 2)))) (gn g1 4) (PSs.cons_ (ps_iseti g1 (pe_bin g1 .Add (xv 4) xint) (xv 3) (ix g1 (xv 2) (xv 4))) PSs.nil_)) (PSs.cons_ (ps_setLci (own := [("_law_name", 6)]) g1 (i := 5) (by rfl) (by rfl) (sw_true rfl rfl rfl (by decide +kernel)) (by decide) (pi_sqi g1 (pe_inli (pf_srtd g1 (by rfl) R.b_sorted (xv 0)))) (blkOk_by (own := [("_law_name", 6)]) (N := N__law_canon) (sc := defScope s__law_canon) (by decide +kernel)) (fun _ _ _ _ _ => (gn (g1.blk _ _ _ _ _) 6)) (fun _ _ _ _ _ => pts_no) (fun _ _ _ _ _ => (pe_tupi (pac (xv 6) (pa1 (ix (g1.blk _ _ _ _ _) (xv 3) (ix (g1.blk _ _ _ _ _) (xv 0) (xv 6))))))) (by intro _; rfl) true) (PSs.cons_ (ps_reti (pe_tupi (pac (xv 5) (pa1 (pe_inli (pf_comp (own := [("_law_one", 8)]) g1 (by decide) (pi_sqi g1 (xv 2)) (blkOk_by (own := [("_law_one", 8)]) (N := N__law_canon) (sc := defScope s__law_canon) (by decide +kernel)) (fun _ _ _ _ _ => (gn (g1.blk _ _ _ _ _) 8)) (fun _ _ _ _ _ => pts_no) (fun _ _ _ _ _ => (pe_tupi (pac (ix (g1.blk _ _ _ _ _) (ix (g1.blk _ _ _ _ _) (xv 1) (xv 8)) xint) (pa1 (pe_b1i (g1.blk _ _ _ _ _) .tuple (by rfl) R.b_tuple (pe_inli (pf_comp (own := [("_law_target", 7)]) (g1.blk _ _ _ _ _) (by decide) (pi_sqi (g1.blk _ _ _ _ _) (ix (g1.blk _ _ _ _ _) (ix (g1.blk _ _ _ _ _) (xv 1) (xv 8)) xint)) (blkOk_by (own := [("_law_target", 7)]) (N := N__law_canon) (sc := Oz.relS ⟨.function, [(".0", .local), ("_law_one", .local), ("tuple", .globalImplicit), ("_law_anew", .free), ("_law_spots_here", .free)], false, false, []⟩ (defScope s__law_canon)) (by decide +kernel)) (fun _ _ _ _ _ => (gn ((g1.blk _ _ _ _ _).blk _ _ _ _ _) 7)) (fun _ _ _ _ _ => pts_no) (fun _ _ _ _ _ => (ix ((g1.blk _ _ _ _ _).blk _ _ _ _ _) (xv 3) (xv 7)))))))))))))))) PSs.nil_))))))
theorem ok__law_spots (R : Fx w mg G) (A : All P w mg base G (Mn n) (4 * n)) : FnG P w G.K mg base (4 * n + 4) R.f__law_spots R.fd__law_spots ["_law_items"] (spI G (Mn (n + 1)) 1 "_law_spots") := by
  refine g_of2 (k := 4 * n + 3) (d := d__law_spots) R.F__law_spots sc__law_spots (u__law_spots n) rfl rfl fun cdv AA outer s H E g3 hp tk => ?_
  have g1 := g3.le (show 4 * n + 1 ≤ 4 * n + 3 by omega)
  exact (PSs.cons_ (ps_asgi (pe_alci pf_dct0) (gn g1 1)) (PSs.cons_ (ps_fori g1 hp (pi_rng1i (by rfl) R.b_range (pa1 (pe_b1i g1 .len (by rfl) R.b_len (xv 0)))) (gn g1 2) (PSs.cons_ (ps_iseti g1 (ix g1 (xv 0) (xv 2)) (xv 1) (pe_bin g1 .Add (xv 2) xint)) PSs.nil_)) (PSs.cons_ (ps_reti (xv 1)) PSs.nil_)))
theorem ok__law_made (R : Fx w mg G) (A : All P w mg base G (Mn n) (4 * n)) : FnG P w G.K mg base (4 * n + 4) R.f__law_made R.fd__law_made ["_law_raw_here"] (spI G (Mn (n + 1)) 1 "_law_made") := by
  refine g_of2 (k := 4 * n + 3) (d := d__law_made) R.F__law_made sc__law_made (u__law_made n) rfl rfl fun cdv AA outer s H E g3 hp tk => ?_
  have g1 := g3.le (show 4 * n + 1 ≤ 4 * n + 3 by omega)
  exact (PSs.cons_ (ps_retfi (nw g1 A.n_Web_2_ tk (pac (pe_inli (pf_cpy g1 (by rfl) R.b_list (ix g1 (xv 0) xint) (by rfl))) (pa1 (pe_inli (pf_cpy g1 (by rfl) R.b_list (ix g1 (xv 0) xint) (by rfl))))))) PSs.nil_)
theorem ok__law_mark (R : Fx w mg G) (A : All P w mg base G (Mn n) (4 * n)) : FnG P w G.K mg base (4 * n + 4) R.f__law_mark R.fd__law_mark ["_law_target"] (spI G (Mn (n + 1)) 1 "_law_mark") := by
  refine g_of2 (k := 4 * n + 3) (d := d__law_mark) R.F__law_mark sc__law_mark (u__law_mark n) rfl rfl fun cdv AA outer s H E g3 hp tk => ?_
  have g1 := g3.le (show 4 * n + 1 ≤ 4 * n + 3 by omega)
  exact (PSs.cons_ (ps_reti (pe_itei (cpt g1 .Eq (xv 0) xint) xstr (pe_itei (cpt g1 .Lt (xv 0) xint) xstr (pe_b1i g1 .str (by rfl) R.b_str (xv 0))))) PSs.nil_)
theorem ok__law_text (R : Fx w mg G) (A : All P w mg base G (Mn n) (4 * n)) : FnG P w G.K mg base (4 * n + 4) R.f__law_text R.fd__law_text ["_law_raw_here"] (spI G (Mn (n + 1)) 1 "_law_text") := by
  refine g_of2 (k := 4 * n + 3) (d := d__law_text) R.F__law_text sc__law_text (u__law_text n) rfl rfl fun cdv AA outer s H E g3 hp tk => ?_
  have g1 := g3.le (show 4 * n + 1 ≤ 4 * n + 3 by omega)
  exact (PSs.cons_ (ps_setLci (own := [("_law_name", 2), ("_law_target", 3)]) g1 (i := 1) (by rfl) (by rfl) (sw_true rfl rfl rfl (by decide +kernel)) (by decide) (pi_sqi g1 (ix g1 (xv 0) xint)) (blkOk_by (own := [("_law_name", 2), ("_law_target", 3)]) (N := N__law_text) (sc := defScope s__law_text) (by decide +kernel)) (fun _ _ _ _ _ => (pg_tp (g1.blk _ _ _ _ _) (pgs_c (gn (g1.blk _ _ _ _ _) 2) (pgs_c (gn (g1.blk _ _ _ _ _) 3) pgs_n)))) (fun _ _ _ _ _ => pts_no) (fun _ _ _ _ _ => (pe_bin (g1.blk _ _ _ _ _) .Add (pe_bin (g1.blk _ _ _ _ _) .Add (xv 2) xstr) (cv (g1.blk _ _ _ _ _) A.c__law_mark takesF (pa1 (xv 3))))) (by intro _; rfl) false) (PSs.cons_ (ps_fori g1 hp (pi_rng1i (by rfl) R.b_range (pa1 (pe_b1i g1 .len (by rfl) R.b_len (ix g1 (xv 0) xint)))) (gn g1 4) (PSs.cons_ (ps_asgi (ix g1 (ix g1 (xv 0) xint) (xv 4)) (pg_tp g1 (pgs_c (gn g1 5) (pgs_c (gn g1 6) pgs_n)))) (PSs.cons_ (ps_expri (pe_muti g1 .append (.inl rfl) (xv 1) (pa1 (pe_bin g1 .Add (pe_bin g1 .Add (pe_bin g1 .Add (pe_bin g1 .Add (pe_bin g1 .Add (pe_b1i g1 .str (by rfl) R.b_str (pe_bin g1 .Add (xv 4) xint)) xstr) (xv 5)) xstr) (pe_joini g1 xstr (pe_inli (pf_comp (own := [("_law_one", 7)]) g1 (by decide) (pi_sqi g1 (xv 6)) (blkOk_by (own := [("_law_one", 7)]) (N := N__law_text) (sc := defScope s__law_text) (by decide +kernel)) (fun _ _ _ _ _ => (gn (g1.blk _ _ _ _ _) 7)) (fun _ _ _ _ _ => pts_no) (fun _ _ _ _ _ => (cv (g1.blk _ _ _ _ _) A.c__law_mark takesF (pa1 (xv 7)))))))) xstr)))) PSs.nil_))) (PSs.cons_ (ps_reti (pe_itei (cpt g1 .NotEq (xv 1) (pe_inli (pf_lst pa_nili))) (pe_joini g1 xstr (xv 1)) xstr)) PSs.nil_)))
theorem ok__law_raw (R : Fx w mg G) (A : All P w mg base G (Mn n) (4 * n)) : FnG P w G.K mg base (4 * n + 4) R.f__law_raw R.fd__law_raw ["_law_script", "_law_k", "_law_words", "_law_most"] (spI G (Mn (n + 1)) 4 "_law_raw") := by
  refine g_of2 (k := 4 * n + 3) (d := d__law_raw) R.F__law_raw sc__law_raw (u__law_raw n) rfl rfl fun cdv AA outer s H E g3 hp tk => ?_
  have g1 := g3.le (show 4 * n + 1 ≤ 4 * n + 3 by omega)
  exact (PSs.cons_ (ps_asgi (cv g1 A.c__law_digits tk (pac (xv 0) (pac (xv 1) (pa1 (pe_inli (pf_lst (pac xint (pac (pe_bin g1 .Add (xv 3) xint) (pac xint (pa1 xint)))))))))) (pg_tp g1 (pgs_c (gn g1 4) (pgs_c (gn g1 5) (pgs_c (gn g1 6) (pgs_c (gn g1 7) pgs_n)))))) (PSs.cons_ (ps_asgi (cv g1 A.c__law_names tk (pac (xv 0) (pac (pe_bin g1 .Add (xv 1) xint) (pa1 (pe_bin g1 .Add xint (xv 4)))))) (gn g1 8)) (PSs.cons_ (ps_asgi (pe_alci pf_dct0) (gn g1 9)) (PSs.cons_ (ps_fori g1 hp (pi_rng1i (by rfl) R.b_range (pa1 (xv 5))) (gn g1 10) (PSs.cons_ (ps_asgi (cv g1 A.c__law_digits tk (pac (xv 0) (pac (pe_bin g1 .Add (pe_bin g1 .Add (xv 1) xint) (xv 10)) (pa1 (pe_inli (pf_lst (pac (pe_bin g1 .Add (pe_b1i g1 .len (by rfl) R.b_len (xv 2)) xint) (pac xint (pac xint (pa1 xint)))))))))) (pg_tp g1 (pgs_c (gn g1 11) (pgs_c (gn g1 12) (pgs_c (gn g1 13) (pgs_c (gn g1 14) pgs_n)))))) (PSs.cons_ (ps_asgi (pe_itei (cpt g1 .Lt (xv 11) (pe_b1i g1 .len (by rfl) R.b_len (xv 2))) (ix g1 (xv 2) (xv 11)) (pe_tupi (pac xstr (pa1 xint)))) (pg_tp g1 (pgs_c (gn g1 15) (pgs_c (gn g1 16) pgs_n)))) (PSs.cons_ (ps_asgi (pe_alci (pf_lst (pac (pe_bin g1 .Mod (xv 12) (pe_bin g1 .Add (xv 5) xint)) (pa1 (pe_bin g1 .Mod (xv 13) (pe_bin g1 .Add (xv 5) xint)))))) (gn g1 17)) (PSs.cons_ (ps_ifi (cpt g1 .Eq (xv 14) xint) (PSs.cons_ (ps_iseti g1 (pe_bin g1 .Sub xint xint) (xv 17) (pe_bin g1 .Mod (xv 12) xint)) PSs.nil_) PSs.nil_) (PSs.cons_ (ps_ifi (pw_andi (cpt g1 .Gt (xv 14) xint) (pw_and1i (cpt g1 .Gt (xv 6) xint))).pt (PSs.cons_ (ps_iseti g1 (pe_mni g1 (by rfl) R.b_min (xv 5) (pe_bin g1 .Add (xv 10) xint)) (xv 17) (pe_bin g1 .Mod (xv 13) xint)) PSs.nil_) PSs.nil_) (PSs.cons_ (ps_iseti g1 (pe_tupi (pac (xv 15) (pa1 (pe_b1i g1 .tuple (by rfl) R.b_tuple (pe_inli (pf_slc g1 (xv 17) po_nonei (po_somei (xv 16)))))))) (xv 9) (pe_bin g1 .Add (xv 10) xint)) PSs.nil_))))))) (PSs.cons_ (ps_asgi (pe_alci pf_dct0) (gn g1 18)) (PSs.cons_ (ps_fori g1 hp (pi_rng1i (by rfl) R.b_range (pa1 (pe_b1i g1 .len (by rfl) R.b_len (xv 8)))) (gn g1 10) (PSs.cons_ (ps_asgi (cv g1 A.c__law_digits tk (pac (xv 0) (pac (pe_bin g1 .Add (pe_bin g1 .Add (xv 1) xint) (xv 10)) (pa1 (pe_inli (pf_lst (pac xint (pa1 xint)))))))) (pg_tp g1 (pgs_c (gn g1 19) (pgs_c (gn g1 20) pgs_n)))) (PSs.cons_ (ps_iseti g1 (pe_itei (cpt g1 .Eq (xv 20) xint) (pe_bin g1 .Sub xint xint) (pe_bin g1 .Mod (pe_bin g1 .Add (xv 19) (pe_bin g1 .Mult (xv 7) (xv 10))) (pe_bin g1 .Add (xv 5) xint))) (xv 18) (ix g1 (xv 8) (xv 10))) PSs.nil_))) (PSs.cons_ (ps_ifi (pw_andi (cpt g1 .Gt (xv 5) xint) (pw_and1i (cpt g1 .Lt (xv 6) xint))).pt (PSs.cons_ (ps_iseti g1 xint (xv 18) (ix g1 (xv 8) xint)) PSs.nil_) PSs.nil_) (PSs.cons_ (ps_reti (cv g1 A.c__law_canon tk (pac (xv 18) (pa1 (xv 9))))) PSs.nil_))))))))
theorem ok__law_turned (R : Fx w mg G) (A : All P w mg base G (Mn n) (4 * n)) : FnG P w G.K mg base (4 * n + 4) R.f__law_turned R.fd__law_turned ["_law_raw_here", "_law_by"] (spI G (Mn (n + 1)) 2 "_law_turned") := by
  refine g_of2 (k := 4 * n + 3) (d := d__law_turned) R.F__law_turned sc__law_turned (u__law_turned n) rfl rfl fun cdv AA outer s H E g3 hp tk => ?_
  have g1 := g3.le (show 4 * n + 1 ≤ 4 * n + 3 by omega)
  exact (PSs.cons_ (ps_asgi (pe_b1i g1 .len (by rfl) R.b_len (ix g1 (xv 0) xint)) (gn g1 2)) (PSs.cons_ (ps_asgi (pe_alci (pf_dspk g1 (pps_cons pe_int xint pps_nil) rfl rfl rfl (by decide) (by decide))) (gn g1 3)) (PSs.cons_ (ps_iseti g1 (pe_bin g1 .Sub xint xint) (xv 3) (pe_bin g1 .Sub xint xint)) (PSs.cons_ (ps_fori g1 hp (pi_rng1i (by rfl) R.b_range (pa1 (xv 2))) (gn g1 4) (PSs.cons_ (ps_iseti g1 (pe_bin g1 .Add xint (pe_bin g1 .Mod (pe_bin g1 .Add (pe_bin g1 .Mult (xv 4) (pe_itei (cpt g1 .Eq (pe_bin g1 .Mod (xv 1) xint) xint) xint (pe_bin g1 .Sub (xv 2) xint))) (xv 1)) (xv 2))) (xv 3) (pe_bin g1 .Add (xv 4) xint)) PSs.nil_)) (PSs.cons_ (ps_setLci (own := [("_law_k", 4)]) g1 (i := 5) (by rfl) (by rfl) (sw_true rfl rfl rfl (by decide +kernel)) (by decide) (pi_rng1i (by rfl) R.b_range (pa1 (xv 2))) (blkOk_by (own := [("_law_k", 4)]) (N := N__law_turned) (sc := defScope s__law_turned) (by decide +kernel)) (fun _ _ _ _ _ => (gn (g1.blk _ _ _ _ _) 4)) (fun _ _ _ _ _ => pts_no) (fun _ _ _ _ _ => xnon) (by intro _; rfl) false) (PSs.cons_ (ps_fori g1 hp (pi_rng1i (by rfl) R.b_range (pa1 (xv 2))) (gn g1 4) (PSs.cons_ (ps_asgi (ix g1 (ix g1 (xv 0) xint) (xv 4)) (pg_tp g1 (pgs_c (gn g1 6) (pgs_c (gn g1 7) pgs_n)))) (PSs.cons_ (ps_iseti g1 (pe_tupi (pac (xv 6) (pa1 (pe_b1i g1 .tuple (by rfl) R.b_tuple (pe_inli (pf_comp (own := [("_law_one", 8)]) g1 (by decide) (pi_sqi g1 (xv 7)) (blkOk_by (own := [("_law_one", 8)]) (N := N__law_turned) (sc := defScope s__law_turned) (by decide +kernel)) (fun _ _ _ _ _ => (gn (g1.blk _ _ _ _ _) 8)) (fun _ _ _ _ _ => pts_no) (fun _ _ _ _ _ => (ix (g1.blk _ _ _ _ _) (xv 3) (xv 8))))))))) (xv 5) (pe_bin g1 .Sub (ix g1 (xv 3) (pe_bin g1 .Add (xv 4) xint)) xint)) PSs.nil_))) (PSs.cons_ (ps_setLci (own := [("_law_name", 10), ("_law_target", 11)]) g1 (i := 9) (by rfl) (by rfl) (sw_true rfl rfl rfl (by decide +kernel)) (by decide) (pi_sqi g1 (ix g1 (xv 0) xint)) (blkOk_by (own := [("_law_name", 10), ("_law_target", 11)]) (N := N__law_turned) (sc := defScope s__law_turned) (by decide +kernel)) (fun _ _ _ _ _ => (pg_tp (g1.blk _ _ _ _ _) (pgs_c (gn (g1.blk _ _ _ _ _) 10) (pgs_c (gn (g1.blk _ _ _ _ _) 11) pgs_n)))) (fun _ _ _ _ _ => pts_no) (fun _ _ _ _ _ => (pe_tupi (pac (xv 10) (pa1 (ix (g1.blk _ _ _ _ _) (xv 3) (xv 11)))))) (by intro _; rfl) true) (PSs.cons_ (ps_asgi (pe_bin g1 .Mod (xv 1) (pe_bin g1 .Add (pe_b1i g1 .len (by rfl) R.b_len (xv 9)) xint)) (gn g1 12)) (PSs.cons_ (ps_reti (pe_tupi (pac (pe_inli (pf_cat (pe_inli (pf_slc g1 (xv 9) (po_somei (xv 12)) po_nonei)) (pe_inli (pf_slc g1 (xv 9) po_nonei (po_somei (xv 12)))))) (pa1 (xv 5))))) PSs.nil_)))))))))
theorem ok_law (R : Fx w mg G) (A : All P w mg base G (Mn n) (4 * n)) (hlaw : ∀ ns : List Int, ns.length ≤ 63 → ∃ T, exec (Mn n) b_law (some (.lst (ns.map .int)) :: List.replicate 15 none) [] = .ret (.val (.bl true)) T) : FnG P w G.K mg base (4 * n + 4) R.f_law R.fd_law ["_law_script"] (spEnd G.K 63) := by
  refine law_of2 (k := 4 * n + 3) R.F_law sc_law rfl (fun cdv AA outer s H E g3 hp tk => ?_) hlaw
  have g1 := g3.le (show 4 * n + 1 ≤ 4 * n + 3 by omega)
  exact pss_cons (ps_set (i := 0) sc_law.nd rfl (by first | exact Or.inl rfl | exact Or.inr rfl) (pe_slice sl_list (pv 0) po_none (po_some pe_int)))
    (PSs.cons_ (ps_asgi (pe_alci (pf_lst (pa1 (pe_tupi (pac (pe_inli (pf_lst pa_nili)) (pa1 (pe_inli (pf_lst pa_nili)))))))) (gn g1 1)) (PSs.cons_ (ps_fori g1 hp (pi_rng1i (by rfl) R.b_range (pa1 xint)) (gn g1 2) (PSs.cons_ (ps_asgi (cv g1 A.c__law_raw tk (pac (xv 0) (pac (pe_bin g1 .Mult xint (xv 2)) (pac (pe_inli (pf_lst (pac (pe_tupi (pac xstr (pa1 xint))) (pa1 (pe_tupi (pac xstr (pa1 xint))))))) (pa1 xint))))) (gn g1 3)) (PSs.cons_ (ps_expri (pe_muti g1 .append (.inl rfl) (xv 1) (pa1 (xv 3)))) (PSs.cons_ (ps_asgi (cv g1 A.c__law_digits tk (pac (xv 0) (pac (pe_bin g1 .Add (pe_bin g1 .Mult xint (xv 2)) xint) (pa1 (pe_inli (pf_lst (pac xint (pa1 xint)))))))) (pg_tp g1 (pgs_c (gn g1 4) (pgs_c (gn g1 5) pgs_n)))) (PSs.cons_ (ps_pari (i := 6) (j := 7) g1 (by rfl) (by rfl) (by decide) (by rfl) (by rfl) (pac (pe_alci (pf_dctp g1 (by rfl) R.b_dict (ix g1 (xv 3) xint))) (pa1 (pe_alci (cf g1 A.c__law_spots tk (pa1 (ix g1 (xv 3) xint)))))) (by rfl)) (PSs.cons_ (ps_ifi (pw_ori (cpt g1 .Eq (xv 5) xint) (pw_or1i (cpt g1 .Eq (xv 7) (pe_inli pf_dct0)))).pt (PSs.cons_ (ps_iseti g1 xint (xv 6) (ix g1 (ix g1 (ix g1 (xv 3) xint) (pe_bin g1 .Mod (xv 4) (pe_b1i g1 .len (by rfl) R.b_len (ix g1 (xv 3) xint)))) xint)) PSs.nil_) (PSs.cons_ (ps_asgi (ix g1 (xv 7) (pe_bin g1 .Add xint (pe_bin g1 .Mod (xv 4) (pe_b1i g1 .len (by rfl) R.b_len (xv 7))))) (pg_tp g1 (pgs_c (gn g1 8) (pgs_c (gn g1 9) pgs_n)))) (PSs.cons_ (ps_iseti g1 (pe_itei (cpt g1 .Lt (xv 5) xint) (pe_tupi (pac (xv 8) (pa1 (pe_bin g1 .Mult (pe_tupi (pa1 xint)) (pe_b1i g1 .len (by rfl) R.b_len (xv 9)))))) (pe_tupi (pac xstr (pa1 (pe_tupi (pac xint (pa1 (pe_bin g1 .Sub xint xint)))))))) (xv 7) (pe_bin g1 .Add xint (pe_bin g1 .Mod (xv 4) (pe_b1i g1 .len (by rfl) R.b_len (xv 7))))) PSs.nil_))) (PSs.cons_ (ps_expri (pe_muti g1 .append (.inl rfl) (xv 1) (pa1 (cv g1 A.c__law_canon tk (pac (xv 6) (pa1 (xv 7))))))) PSs.nil_))))))) (PSs.cons_ (ps_setLci (own := [("_law_raw_here", 3)]) g1 (i := 10) (by rfl) (by rfl) (sw_true rfl rfl rfl (by decide +kernel)) (by decide) (pi_sqi g1 (xv 1)) (blkOk_by (own := [("_law_raw_here", 3)]) (N := N_law) (sc := defScope s_law) (by decide +kernel)) (fun _ _ _ _ _ => (gn (g1.blk _ _ _ _ _) 3)) (fun _ _ _ _ _ => pts_no) (fun _ _ _ _ _ => (cv (g1.blk _ _ _ _ _) A.c__law_made takesF (pa1 (cv (g1.blk _ _ _ _ _) A.c__law_turned takesF (pac (xv 3) (pa1 (pe_bin (g1.blk _ _ _ _ _) .Add (pe_bin (g1.blk _ _ _ _ _) .Mult xint (pe_b1i (g1.blk _ _ _ _ _) .len (by rfl) R.b_len (ix (g1.blk _ _ _ _ _) (xv 3) xint))) xint))))))) (by intro _; rfl) true) (PSs.cons_ (ps_fori g1 hp (pi_zipi g1 (by rfl) R.b_zip (pac (xv 10) (pa1 (xv 1)))) (pg_tp g1 (pgs_c (gn g1 11) (pgs_c (gn g1 3) pgs_n))) (PSs.cons_ (ps_ifi (pw_ori (pt_noti (tv (cv g1 A.c__law_same tk (pac (rp g1 A.r_Web R.b_repr (xv 11)) (pa1 (cv g1 A.c__law_text tk (pa1 (xv 3)))))))) (pw_ori (eqt g3 A.e_Web (xv 11) (rp g1 A.r_Web R.b_repr (xv 11))) (pw_or1i (eqt g3 A.e_Web (xv 11) (xv 3))))).pt (PSs.cons_ (ps_reti xbool) PSs.nil_) PSs.nil_) (PSs.cons_ (ps_setLci (own := [("_law_item", 13)]) g1 (i := 12) (by rfl) (by rfl) (sw_true rfl rfl rfl (by decide +kernel)) (by decide) (pi_sqi g1 (ix g1 (xv 3) xint)) (blkOk_by (own := [("_law_item", 13)]) (N := N_law) (sc := defScope s_law) (by decide +kernel)) (fun _ _ _ _ _ => (gn (g1.blk _ _ _ _ _) 13)) (fun _ _ _ _ _ => (pts_c (cpt (g1.blk _ _ _ _ _) .NotEq (ix (g1.blk _ _ _ _ _) (xv 13) xint) xstr))) (fun _ _ _ _ _ => (xv 13)) (by intro _; rfl) true) (PSs.cons_ (ps_ifi (pt_noti (tv (cv g1 A.c__law_same tk (pac (pe_inli (pf_lst (pac (ln g1 A.l_Web R.b_len (xv 11)) (pa1 (mv0 g1 A.m_Web_is_heap tk (xv 11)))))) (pa1 (pe_inli (pf_lst (pac (pe_b1i g1 .len (by rfl) R.b_len (ix g1 (xv 3) xint)) (pa1 (cpv g1 .Eq (xv 12) (pe_inli (pf_lst pa_nili)))))))))))) (PSs.cons_ (ps_reti xbool) PSs.nil_) PSs.nil_) (PSs.cons_ (ps_fori g1 hp (pi_zipi g1 (by rfl) R.b_zip (pac (xv 10) (pa1 (xv 1)))) (pg_tp g1 (pgs_c (gn g1 14) (pgs_c (gn g1 15) pgs_n))) (PSs.cons_ (ps_ifi (pw_ori (cpt g1 .NotEq (eqv g3 A.e_Web (xv 11) (xv 14)) (cpv g1 .Eq (xv 3) (xv 15))) (pw_or1i (cpt g1 .Eq (nev g3 A.e_Web (xv 11) (xv 14)) (cpv g1 .Eq (xv 3) (xv 15))))).pt (PSs.cons_ (ps_reti xbool) PSs.nil_) PSs.nil_) PSs.nil_)) (PSs.cons_ (ps_ifi (pt_noti (eqt g3 A.e_Web (xv 11) (cv g1 A.c__law_made tk (pa1 (xv 3))))) (PSs.cons_ (ps_reti xbool) PSs.nil_) PSs.nil_) PSs.nil_)))))) (PSs.cons_ (ps_reti (pe_bandi (eqv g3 A.e_Web (pe_inli (nw0 g1 A.n_Web_0_ tk)) (pe_inli (nw g1 A.n_Web_2_ tk (pac (pe_inli (pf_lst pa_nili)) (pa1 (pe_tupi pa_nili)))))) (pe_bandi (cpv g1 .Eq (rp g1 A.r_Web R.b_repr (pe_inli (nw0 g1 A.n_Web_0_ tk))) xstr) (xone (cpv g1 .Eq (ln g1 A.l_Web R.b_len (pe_inli (nw0 g1 A.n_Web_0_ tk))) xint))))) PSs.nil_)))))
theorem all_n (R : Fx w mg G) : ∀ n : Nat, All P w mg base G (Mn n) (4 * n)
  | 0 => all_of R (g_zero rfl fun _ _ => rfl) (g_zero rfl fun _ _ => rfl) (g_zero rfl fun _ _ => rfl) (g_zero rfl fun _ _ => rfl) (g_zero rfl fun _ _ => rfl) (g_zero rfl fun _ _ => rfl) (g_zero rfl fun _ _ => rfl) (g_zero rfl fun _ _ => rfl) (g_zero rfl fun _ _ => rfl) (g_zero rfl fun _ _ => rfl) (g_zero rfl fun _ _ => rfl) (g_zero rfl fun _ _ => rfl) (g_zero rfl fun _ _ => rfl) (g_zero rfl fun _ _ => rfl) (g_zero rfl fun _ _ => rfl) (g_zero rfl fun _ _ => rfl) (g_zero rfl fun _ _ => rfl) (g_zero rfl fun _ _ => rfl) (g_zero rfl fun _ _ => rfl) (g_zero rfl fun _ _ => rfl) (g_zero rfl fun _ _ => rfl) (g_zero rfl fun _ _ => rfl) (g_zero rfl fun _ _ => rfl)
  | n + 1 => all_of R (ok_is_word R (all_n R n)) (ok_need_names R (all_n R n)) (ok_is_item R (all_n R n)) (ok_met_from R (all_n R n)) (ok_Webu_initu R (all_n R n)) (ok_Webu_equ R (all_n R n)) (ok_Webu_lenu R (all_n R n)) (ok_Webu_repru R (all_n R n)) (ok_Web_is_heap R (all_n R n)) (ok_mark R (all_n R n)) (ok_web_text R (all_n R n)) (ok__law_cell R (all_n R n)) (ok__law_digits R (all_n R n)) (ok__law_same R (all_n R n)) (ok__law_names R (all_n R n)) (ok__law_met R (all_n R n)) (ok__law_canon R (all_n R n)) (ok__law_spots R (all_n R n)) (ok__law_made R (all_n R n)) (ok__law_mark R (all_n R n)) (ok__law_text R (all_n R n)) (ok__law_raw R (all_n R n)) (ok__law_turned R (all_n R n))
end
end K03
set_option Elab.async false
set_option linter.all false
set_option maxRecDepth 100000
set_option maxHeartbeats 8000000
namespace K03
open PySem L2 Oz PyProof.Rows
theorem kit_rt {K : PySem.W.Frag} {C : Addr} {T : String} {b : Bool} (h : PySem.W.kitMeta T = true) (s : PySem.W.subIn K (.ref C) (.type T) = some b) : PySem.W.kitOne K (.ref C) (.type T) = some b := by
  unfold PySem.W.kitOne PySem.W.kitCls
  rw [if_neg (by intro z; cases beq_iff_eq.mp z)]
  dsimp only
  rw [if_pos h]; exact s
theorem kit_tr {K : PySem.W.Frag} {C : Addr} {T : String} {b : Bool} (i : PySem.W.isClsIn K C = true) (t : PySem.W.typeIn K (.ref C) = some (.type "type")) (s : PySem.W.subIn K (.type T) (.ref C) = some b) : PySem.W.kitOne K (.type T) (.ref C) = some b := by
  unfold PySem.W.kitOne PySem.W.kitCls
  rw [if_neg (by intro z; cases beq_iff_eq.mp z)]
  dsimp only
  rw [if_pos (by rw [t]; unfold PySem.W.isClsIn at i; rw [i]; rfl)]; exact s
theorem kit_rr {K : PySem.W.Frag} {C : Addr} : PySem.W.kitOne K (.ref C) (.ref C) = some true := by
  unfold PySem.W.kitOne
  rw [if_pos (beq_self_eq_true _)]
theorem all_mk {l : PySem.W.OpenLaw} {w : World} {K : PySem.W.Frag} {h : Heap} {mg : Str → Option Value} {fa : Addr} {C f_is_word f_need_names f_is_item f_met_from f_Webu_initu T_Webu_initu p0_Webu_initu p1_Webu_initu f_Webu_equ f_Webu_lenu f_Webu_repru f_Web_is_heap f_mark f_web_text f__law_cell f__law_digits f__law_same f__law_names f__law_met f__law_canon f__law_spots f__law_made f__law_mark f__law_text f__law_raw f__law_turned f_law : Addr} {kV_is_word oc_is_word dc_is_word pm_is_word cd_is_word ct_is_word kV_need_names oc_need_names dc_need_names pm_need_names cd_need_names ct_need_names kV_is_item oc_is_item dc_is_item pm_is_item cd_is_item ct_is_item kV_met_from oc_met_from dc_met_from pm_met_from cd_met_from ct_met_from kV_Webu_initu oc_Webu_initu dc_Webu_initu pm_Webu_initu cd_Webu_initu ct_Webu_initu kV_Webu_equ oc_Webu_equ dc_Webu_equ pm_Webu_equ cd_Webu_equ ct_Webu_equ kV_Webu_lenu oc_Webu_lenu dc_Webu_lenu pm_Webu_lenu cd_Webu_lenu ct_Webu_lenu kV_Webu_repru oc_Webu_repru dc_Webu_repru pm_Webu_repru cd_Webu_repru ct_Webu_repru kV_Web_is_heap oc_Web_is_heap dc_Web_is_heap pm_Web_is_heap cd_Web_is_heap ct_Web_is_heap kV_mark oc_mark dc_mark pm_mark cd_mark ct_mark kV_web_text oc_web_text dc_web_text pm_web_text cd_web_text ct_web_text kV__law_cell oc__law_cell dc__law_cell pm__law_cell cd__law_cell ct__law_cell kV__law_digits oc__law_digits dc__law_digits pm__law_digits cd__law_digits ct__law_digits kV__law_same oc__law_same dc__law_same pm__law_same cd__law_same ct__law_same kV__law_names oc__law_names dc__law_names pm__law_names cd__law_names ct__law_names kV__law_met oc__law_met dc__law_met pm__law_met cd__law_met ct__law_met kV__law_canon oc__law_canon dc__law_canon pm__law_canon cd__law_canon ct__law_canon kV__law_spots oc__law_spots dc__law_spots pm__law_spots cd__law_spots ct__law_spots kV__law_made oc__law_made dc__law_made pm__law_made cd__law_made ct__law_made kV__law_mark oc__law_mark dc__law_mark pm__law_mark cd__law_mark ct__law_mark kV__law_text oc__law_text dc__law_text pm__law_text cd__law_text ct__law_text kV__law_raw oc__law_raw dc__law_raw pm__law_raw cd__law_raw ct__law_raw kV__law_turned oc__law_turned dc__law_turned pm__law_turned cd__law_turned ct__law_turned kV_law oc_law dc_law pm_law cd_law ct_law : Value} {od_is_word an_is_word od_need_names an_need_names od_is_item an_is_item od_met_from an_met_from od_Webu_initu an_Webu_initu odT_Webu_initu od0_Webu_initu od1_Webu_initu od_Webu_equ an_Webu_equ od_Webu_lenu an_Webu_lenu od_Webu_repru an_Webu_repru od_Web_is_heap an_Web_is_heap od_mark an_mark od_web_text an_web_text od__law_cell an__law_cell od__law_digits an__law_digits od__law_same an__law_same od__law_names an__law_names od__law_met an__law_met od__law_canon an__law_canon od__law_spots an__law_spots od__law_made an__law_made od__law_mark an__law_mark od__law_text an__law_text od__law_raw an__law_raw od__law_turned an__law_turned od_law an_law : Option Addr} {sl_is_word sl_need_names sl_is_item sl_met_from sl_Webu_initu slT_Webu_initu sl0_Webu_initu sl1_Webu_initu sl_Webu_equ sl_Webu_lenu sl_Webu_repru sl_Web_is_heap sl_mark sl_web_text sl__law_cell sl__law_digits sl__law_same sl__law_names sl__law_met sl__law_canon sl__law_spots sl__law_made sl__law_mark sl__law_text sl__law_raw sl__law_turned sl_law : Array (Option Value)} {itsT_Webu_initu its0_Webu_initu its1_Webu_initu : Array Value} {nT_Webu_initu n0_Webu_initu n1_Webu_initu : Nat} {t_GONE : Tok} {t_MOST_NAMES : Tok} {t_MOST_POINTS : Tok} {t_NOTHING : Tok} {t_LETTERS : Tok} (X : K.In h) (GG : h.Ns mainGlobals mg) (hfa : mg "law" = some (.ref fa))
    (hlaw : ∀ ns : List Int, ns.length ≤ 63 → ∃ T, exec (Mn 10) b_law (some (.lst (ns.map .int)) :: List.replicate 15 none) [] = .ret (.val (.bl true)) T)
    (z_len : PySem.W.nsIn K mainGlobals "len" = some none)
    (z_all : PySem.W.nsIn K mainGlobals "all" = some none)
    (z_tuple : PySem.W.nsIn K mainGlobals "tuple" = some none)
    (z_repr : PySem.W.nsIn K mainGlobals "repr" = some none)
    (z_str : PySem.W.nsIn K mainGlobals "str" = some none)
    (z_isinstance : PySem.W.nsIn K mainGlobals "isinstance" = some none)
    (z_dict : PySem.W.nsIn K mainGlobals "dict" = some none)
    (z_list : PySem.W.nsIn K mainGlobals "list" = some none)
    (z_sorted : PySem.W.nsIn K mainGlobals "sorted" = some none)
    (z_range : PySem.W.nsIn K mainGlobals "range" = some none)
    (z_zip : PySem.W.nsIn K mainGlobals "zip" = some none)
    (z_enumerate : PySem.W.nsIn K mainGlobals "enumerate" = some none)
    (z_min : PySem.W.nsIn K mainGlobals "min" = some none)
    (a_GONE : PySem.W.nsIn K mainGlobals "GONE" = some (some (.int (-1) t_GONE)))
    (a_LETTERS : PySem.W.nsIn K mainGlobals "LETTERS" = some (some (.str "abcdefghijklmnopqrstuvwxyz" t_LETTERS)))
    (a_MOST_NAMES : PySem.W.nsIn K mainGlobals "MOST_NAMES" = some (some (.int (6) t_MOST_NAMES)))
    (a_MOST_POINTS : PySem.W.nsIn K mainGlobals "MOST_POINTS" = some (some (.int (200) t_MOST_POINTS)))
    (a_NOTHING : PySem.W.nsIn K mainGlobals "NOTHING" = some (some (.int (0) t_NOTHING)))
    (aC : PySem.W.nsIn K mainGlobals "Web" = some (some (.ref C)))
    (pg : PySem.W.plainGet K C Str.empty = true)
    (hd : PySem.W.hasDictIn K C = true)
    (po : PySem.W.plainOver K C = true)
    (sa : PySem.W.findIn K (.ref C) "__setattr__" = some (some (.builtin "object.__setattr__")))
    (ha : PySem.W.findIn K (.ref C) "__class__" = some (some (.builtin "object.__class__")))
    (hn : PySem.W.specialIn K (.builtin "object.__class__") "__get__" = some (some (.builtin "getset_descriptor.__get__")))
    (htk : PySem.W.takesIn K (.builtin "object.__class__") = some true)
    (hm : PySem.W.mroIn K C (.type "object") = some true)
    (mk : PySem.W.makesIn K C = true)
    (kc : PySem.W.keepIn K (.ref C) = true)
    (ic : PySem.W.isClsIn K C = true)
    (tc : PySem.W.typeIn K (.ref C) = some (.type "type"))
    (sd : PySem.W.subIn K (.ref C) (.type "dict") = some false)
    (ne : PySem.W.findIn K (.ref C) "__ne__" = some (some (.builtin "object.__ne__")))
    (nfl : PySem.W.notFirst K C (.type "list") = true)
    (nfs : PySem.W.notFirst K C (.type "str") = true)
    (nft : PySem.W.notFirst K C (.type "tuple") = true)
    (s_NoneType : PySem.W.subIn K (.type "NoneType") (.ref C) = some false)
    (s_bool : PySem.W.subIn K (.type "bool") (.ref C) = some false)
    (s_int : PySem.W.subIn K (.type "int") (.ref C) = some false)
    (s_str : PySem.W.subIn K (.type "str") (.ref C) = some false)
    (s_tuple : PySem.W.subIn K (.type "tuple") (.ref C) = some false)
    (s_list : PySem.W.subIn K (.type "list") (.ref C) = some false)
    (s_dict : PySem.W.subIn K (.type "dict") (.ref C) = some false)
    (n_leads : PySem.W.findIn K (.ref C) "leads" = some none)
    (n_spots : PySem.W.findIn K (.ref C) "spots" = some none)
    (a_is_word : PySem.W.nsIn K mainGlobals "is_word" = some (some (.ref f_is_word)))
    (l_is_word : K.lookup f_is_word = some ⟨oc_is_word, od_is_word, .func (PySem.W.fnOf "is_word" "is_word" (defArgs s_is_word) (defBody s_is_word) (defScope s_is_word) .none kV_is_word dc_is_word pm_is_word an_is_word cd_is_word ct_is_word), sl_is_word⟩)
    (c_is_word : PySem.W.codeIn K cd_is_word "is_word" = true)
    (k_is_word : PySem.W.keepIn K (.ref f_is_word) = true)
    (a_need_names : PySem.W.nsIn K mainGlobals "need_names" = some (some (.ref f_need_names)))
    (l_need_names : K.lookup f_need_names = some ⟨oc_need_names, od_need_names, .func (PySem.W.fnOf "need_names" "need_names" (defArgs s_need_names) (defBody s_need_names) (defScope s_need_names) .none kV_need_names dc_need_names pm_need_names an_need_names cd_need_names ct_need_names), sl_need_names⟩)
    (c_need_names : PySem.W.codeIn K cd_need_names "need_names" = true)
    (k_need_names : PySem.W.keepIn K (.ref f_need_names) = true)
    (a_is_item : PySem.W.nsIn K mainGlobals "is_item" = some (some (.ref f_is_item)))
    (l_is_item : K.lookup f_is_item = some ⟨oc_is_item, od_is_item, .func (PySem.W.fnOf "is_item" "is_item" (defArgs s_is_item) (defBody s_is_item) (defScope s_is_item) .none kV_is_item dc_is_item pm_is_item an_is_item cd_is_item ct_is_item), sl_is_item⟩)
    (c_is_item : PySem.W.codeIn K cd_is_item "is_item" = true)
    (k_is_item : PySem.W.keepIn K (.ref f_is_item) = true)
    (a_met_from : PySem.W.nsIn K mainGlobals "met_from" = some (some (.ref f_met_from)))
    (l_met_from : K.lookup f_met_from = some ⟨oc_met_from, od_met_from, .func (PySem.W.fnOf "met_from" "met_from" (defArgs s_met_from) (defBody s_met_from) (defScope s_met_from) .none kV_met_from dc_met_from pm_met_from an_met_from cd_met_from ct_met_from), sl_met_from⟩)
    (c_met_from : PySem.W.codeIn K cd_met_from "met_from" = true)
    (k_met_from : PySem.W.keepIn K (.ref f_met_from) = true)
    (a_Webu_initu : PySem.W.findIn K (.ref C) "__init__" = some (some (.ref f_Webu_initu)))
    (g_Webu_initu : PySem.W.isFn K (.ref f_Webu_initu) = true)
    (l_Webu_initu : K.lookup f_Webu_initu = some ⟨oc_Webu_initu, od_Webu_initu, .func (PySem.W.fnOf "__init__" "Web.__init__" (defArgs s_Webu_initu) (defBody s_Webu_initu) (defScope s_Webu_initu) (.ref T_Webu_initu) kV_Webu_initu dc_Webu_initu pm_Webu_initu an_Webu_initu cd_Webu_initu ct_Webu_initu), sl_Webu_initu⟩)
    (lT_Webu_initu : K.lookup T_Webu_initu = some ⟨.type "tuple", odT_Webu_initu, .seq itsT_Webu_initu nT_Webu_initu, slT_Webu_initu⟩)
    (vT_Webu_initu : Vals ([.ref p0_Webu_initu, .ref p1_Webu_initu] : List V) itsT_Webu_initu.toList)
    (lp0_Webu_initu : K.lookup p0_Webu_initu = some ⟨.type "tuple", od0_Webu_initu, .seq its0_Webu_initu n0_Webu_initu, sl0_Webu_initu⟩)
    (vp0_Webu_initu : its0_Webu_initu.size ≤ sizeLine ∧ Vals ([] : List V) its0_Webu_initu.toList)
    (lp1_Webu_initu : K.lookup p1_Webu_initu = some ⟨.type "tuple", od1_Webu_initu, .seq its1_Webu_initu n1_Webu_initu, sl1_Webu_initu⟩)
    (vp1_Webu_initu : its1_Webu_initu.size ≤ sizeLine ∧ Vals ([] : List V) its1_Webu_initu.toList)
    (c_Webu_initu : PySem.W.codeIn K cd_Webu_initu "Web.__init__" = true)
    (k_Webu_initu : PySem.W.keepIn K (.ref f_Webu_initu) = true)
    (a_Webu_equ : PySem.W.findIn K (.ref C) "__eq__" = some (some (.ref f_Webu_equ)))
    (g_Webu_equ : PySem.W.isFn K (.ref f_Webu_equ) = true)
    (l_Webu_equ : K.lookup f_Webu_equ = some ⟨oc_Webu_equ, od_Webu_equ, .func (PySem.W.fnOf "__eq__" "Web.__eq__" (defArgs s_Webu_equ) (defBody s_Webu_equ) (defScope s_Webu_equ) .none kV_Webu_equ dc_Webu_equ pm_Webu_equ an_Webu_equ cd_Webu_equ ct_Webu_equ), sl_Webu_equ⟩)
    (c_Webu_equ : PySem.W.codeIn K cd_Webu_equ "Web.__eq__" = true)
    (k_Webu_equ : PySem.W.keepIn K (.ref f_Webu_equ) = true)
    (a_Webu_lenu : PySem.W.findIn K (.ref C) "__len__" = some (some (.ref f_Webu_lenu)))
    (g_Webu_lenu : PySem.W.isFn K (.ref f_Webu_lenu) = true)
    (l_Webu_lenu : K.lookup f_Webu_lenu = some ⟨oc_Webu_lenu, od_Webu_lenu, .func (PySem.W.fnOf "__len__" "Web.__len__" (defArgs s_Webu_lenu) (defBody s_Webu_lenu) (defScope s_Webu_lenu) .none kV_Webu_lenu dc_Webu_lenu pm_Webu_lenu an_Webu_lenu cd_Webu_lenu ct_Webu_lenu), sl_Webu_lenu⟩)
    (c_Webu_lenu : PySem.W.codeIn K cd_Webu_lenu "Web.__len__" = true)
    (k_Webu_lenu : PySem.W.keepIn K (.ref f_Webu_lenu) = true)
    (a_Webu_repru : PySem.W.findIn K (.ref C) "__repr__" = some (some (.ref f_Webu_repru)))
    (g_Webu_repru : PySem.W.isFn K (.ref f_Webu_repru) = true)
    (l_Webu_repru : K.lookup f_Webu_repru = some ⟨oc_Webu_repru, od_Webu_repru, .func (PySem.W.fnOf "__repr__" "Web.__repr__" (defArgs s_Webu_repru) (defBody s_Webu_repru) (defScope s_Webu_repru) .none kV_Webu_repru dc_Webu_repru pm_Webu_repru an_Webu_repru cd_Webu_repru ct_Webu_repru), sl_Webu_repru⟩)
    (c_Webu_repru : PySem.W.codeIn K cd_Webu_repru "Web.__repr__" = true)
    (k_Webu_repru : PySem.W.keepIn K (.ref f_Webu_repru) = true)
    (a_Web_is_heap : PySem.W.findIn K (.ref C) "is_heap" = some (some (.ref f_Web_is_heap)))
    (g_Web_is_heap : PySem.W.isFn K (.ref f_Web_is_heap) = true)
    (l_Web_is_heap : K.lookup f_Web_is_heap = some ⟨oc_Web_is_heap, od_Web_is_heap, .func (PySem.W.fnOf "is_heap" "Web.is_heap" (defArgs s_Web_is_heap) (defBody s_Web_is_heap) (defScope s_Web_is_heap) .none kV_Web_is_heap dc_Web_is_heap pm_Web_is_heap an_Web_is_heap cd_Web_is_heap ct_Web_is_heap), sl_Web_is_heap⟩)
    (c_Web_is_heap : PySem.W.codeIn K cd_Web_is_heap "Web.is_heap" = true)
    (k_Web_is_heap : PySem.W.keepIn K (.ref f_Web_is_heap) = true)
    (a_mark : PySem.W.nsIn K mainGlobals "mark" = some (some (.ref f_mark)))
    (l_mark : K.lookup f_mark = some ⟨oc_mark, od_mark, .func (PySem.W.fnOf "mark" "mark" (defArgs s_mark) (defBody s_mark) (defScope s_mark) .none kV_mark dc_mark pm_mark an_mark cd_mark ct_mark), sl_mark⟩)
    (c_mark : PySem.W.codeIn K cd_mark "mark" = true)
    (k_mark : PySem.W.keepIn K (.ref f_mark) = true)
    (a_web_text : PySem.W.nsIn K mainGlobals "web_text" = some (some (.ref f_web_text)))
    (l_web_text : K.lookup f_web_text = some ⟨oc_web_text, od_web_text, .func (PySem.W.fnOf "web_text" "web_text" (defArgs s_web_text) (defBody s_web_text) (defScope s_web_text) .none kV_web_text dc_web_text pm_web_text an_web_text cd_web_text ct_web_text), sl_web_text⟩)
    (c_web_text : PySem.W.codeIn K cd_web_text "web_text" = true)
    (k_web_text : PySem.W.keepIn K (.ref f_web_text) = true)
    (a__law_cell : PySem.W.nsIn K mainGlobals "_law_cell" = some (some (.ref f__law_cell)))
    (l__law_cell : K.lookup f__law_cell = some ⟨oc__law_cell, od__law_cell, .func (PySem.W.fnOf "_law_cell" "_law_cell" (defArgs s__law_cell) (defBody s__law_cell) (defScope s__law_cell) .none kV__law_cell dc__law_cell pm__law_cell an__law_cell cd__law_cell ct__law_cell), sl__law_cell⟩)
    (c__law_cell : PySem.W.codeIn K cd__law_cell "_law_cell" = true)
    (k__law_cell : PySem.W.keepIn K (.ref f__law_cell) = true)
    (a__law_digits : PySem.W.nsIn K mainGlobals "_law_digits" = some (some (.ref f__law_digits)))
    (l__law_digits : K.lookup f__law_digits = some ⟨oc__law_digits, od__law_digits, .func (PySem.W.fnOf "_law_digits" "_law_digits" (defArgs s__law_digits) (defBody s__law_digits) (defScope s__law_digits) .none kV__law_digits dc__law_digits pm__law_digits an__law_digits cd__law_digits ct__law_digits), sl__law_digits⟩)
    (c__law_digits : PySem.W.codeIn K cd__law_digits "_law_digits" = true)
    (k__law_digits : PySem.W.keepIn K (.ref f__law_digits) = true)
    (a__law_same : PySem.W.nsIn K mainGlobals "_law_same" = some (some (.ref f__law_same)))
    (l__law_same : K.lookup f__law_same = some ⟨oc__law_same, od__law_same, .func (PySem.W.fnOf "_law_same" "_law_same" (defArgs s__law_same) (defBody s__law_same) (defScope s__law_same) .none kV__law_same dc__law_same pm__law_same an__law_same cd__law_same ct__law_same), sl__law_same⟩)
    (c__law_same : PySem.W.codeIn K cd__law_same "_law_same" = true)
    (k__law_same : PySem.W.keepIn K (.ref f__law_same) = true)
    (a__law_names : PySem.W.nsIn K mainGlobals "_law_names" = some (some (.ref f__law_names)))
    (l__law_names : K.lookup f__law_names = some ⟨oc__law_names, od__law_names, .func (PySem.W.fnOf "_law_names" "_law_names" (defArgs s__law_names) (defBody s__law_names) (defScope s__law_names) .none kV__law_names dc__law_names pm__law_names an__law_names cd__law_names ct__law_names), sl__law_names⟩)
    (c__law_names : PySem.W.codeIn K cd__law_names "_law_names" = true)
    (k__law_names : PySem.W.keepIn K (.ref f__law_names) = true)
    (a__law_met : PySem.W.nsIn K mainGlobals "_law_met" = some (some (.ref f__law_met)))
    (l__law_met : K.lookup f__law_met = some ⟨oc__law_met, od__law_met, .func (PySem.W.fnOf "_law_met" "_law_met" (defArgs s__law_met) (defBody s__law_met) (defScope s__law_met) .none kV__law_met dc__law_met pm__law_met an__law_met cd__law_met ct__law_met), sl__law_met⟩)
    (c__law_met : PySem.W.codeIn K cd__law_met "_law_met" = true)
    (k__law_met : PySem.W.keepIn K (.ref f__law_met) = true)
    (a__law_canon : PySem.W.nsIn K mainGlobals "_law_canon" = some (some (.ref f__law_canon)))
    (l__law_canon : K.lookup f__law_canon = some ⟨oc__law_canon, od__law_canon, .func (PySem.W.fnOf "_law_canon" "_law_canon" (defArgs s__law_canon) (defBody s__law_canon) (defScope s__law_canon) .none kV__law_canon dc__law_canon pm__law_canon an__law_canon cd__law_canon ct__law_canon), sl__law_canon⟩)
    (c__law_canon : PySem.W.codeIn K cd__law_canon "_law_canon" = true)
    (k__law_canon : PySem.W.keepIn K (.ref f__law_canon) = true)
    (a__law_spots : PySem.W.nsIn K mainGlobals "_law_spots" = some (some (.ref f__law_spots)))
    (l__law_spots : K.lookup f__law_spots = some ⟨oc__law_spots, od__law_spots, .func (PySem.W.fnOf "_law_spots" "_law_spots" (defArgs s__law_spots) (defBody s__law_spots) (defScope s__law_spots) .none kV__law_spots dc__law_spots pm__law_spots an__law_spots cd__law_spots ct__law_spots), sl__law_spots⟩)
    (c__law_spots : PySem.W.codeIn K cd__law_spots "_law_spots" = true)
    (k__law_spots : PySem.W.keepIn K (.ref f__law_spots) = true)
    (a__law_made : PySem.W.nsIn K mainGlobals "_law_made" = some (some (.ref f__law_made)))
    (l__law_made : K.lookup f__law_made = some ⟨oc__law_made, od__law_made, .func (PySem.W.fnOf "_law_made" "_law_made" (defArgs s__law_made) (defBody s__law_made) (defScope s__law_made) .none kV__law_made dc__law_made pm__law_made an__law_made cd__law_made ct__law_made), sl__law_made⟩)
    (c__law_made : PySem.W.codeIn K cd__law_made "_law_made" = true)
    (k__law_made : PySem.W.keepIn K (.ref f__law_made) = true)
    (a__law_mark : PySem.W.nsIn K mainGlobals "_law_mark" = some (some (.ref f__law_mark)))
    (l__law_mark : K.lookup f__law_mark = some ⟨oc__law_mark, od__law_mark, .func (PySem.W.fnOf "_law_mark" "_law_mark" (defArgs s__law_mark) (defBody s__law_mark) (defScope s__law_mark) .none kV__law_mark dc__law_mark pm__law_mark an__law_mark cd__law_mark ct__law_mark), sl__law_mark⟩)
    (c__law_mark : PySem.W.codeIn K cd__law_mark "_law_mark" = true)
    (k__law_mark : PySem.W.keepIn K (.ref f__law_mark) = true)
    (a__law_text : PySem.W.nsIn K mainGlobals "_law_text" = some (some (.ref f__law_text)))
    (l__law_text : K.lookup f__law_text = some ⟨oc__law_text, od__law_text, .func (PySem.W.fnOf "_law_text" "_law_text" (defArgs s__law_text) (defBody s__law_text) (defScope s__law_text) .none kV__law_text dc__law_text pm__law_text an__law_text cd__law_text ct__law_text), sl__law_text⟩)
    (c__law_text : PySem.W.codeIn K cd__law_text "_law_text" = true)
    (k__law_text : PySem.W.keepIn K (.ref f__law_text) = true)
    (a__law_raw : PySem.W.nsIn K mainGlobals "_law_raw" = some (some (.ref f__law_raw)))
    (l__law_raw : K.lookup f__law_raw = some ⟨oc__law_raw, od__law_raw, .func (PySem.W.fnOf "_law_raw" "_law_raw" (defArgs s__law_raw) (defBody s__law_raw) (defScope s__law_raw) .none kV__law_raw dc__law_raw pm__law_raw an__law_raw cd__law_raw ct__law_raw), sl__law_raw⟩)
    (c__law_raw : PySem.W.codeIn K cd__law_raw "_law_raw" = true)
    (k__law_raw : PySem.W.keepIn K (.ref f__law_raw) = true)
    (a__law_turned : PySem.W.nsIn K mainGlobals "_law_turned" = some (some (.ref f__law_turned)))
    (l__law_turned : K.lookup f__law_turned = some ⟨oc__law_turned, od__law_turned, .func (PySem.W.fnOf "_law_turned" "_law_turned" (defArgs s__law_turned) (defBody s__law_turned) (defScope s__law_turned) .none kV__law_turned dc__law_turned pm__law_turned an__law_turned cd__law_turned ct__law_turned), sl__law_turned⟩)
    (c__law_turned : PySem.W.codeIn K cd__law_turned "_law_turned" = true)
    (k__law_turned : PySem.W.keepIn K (.ref f__law_turned) = true)
    (a_law : PySem.W.nsIn K mainGlobals "law" = some (some (.ref f_law)))
    (l_law : K.lookup f_law = some ⟨oc_law, od_law, .func (PySem.W.fnOf "law" "law" (defArgs s_law) (defBody s_law) (defScope s_law) .none kV_law dc_law pm_law an_law cd_law ct_law), sl_law⟩)
    (c_law : PySem.W.codeIn K cd_law "law" = true)
    (k_law : PySem.W.keepIn K (.ref f_law) = true)
    : ∃ fd : FuncData, (∀ (s : Shared) (u : Value), BindsTo s fd ⟨[u], []⟩ [("_law_script", u)]) ∧ ∀ base : Heap, K.In base → base.Ns mainGlobals mg → FnG l.prog w K mg base 44 fa fd ["_law_script"] (spEnd K 63) := by
  have e : f_law = fa := by
    cases hfa.symm.trans (PySem.W.mg_of X GG a_law)
    rfl
  subst e
  let R : Fx w mg ⟨K, fun _ => C⟩ := {
    b_len := PySem.W.mg_none_of X GG z_len
    b_all := PySem.W.mg_none_of X GG z_all
    b_tuple := PySem.W.mg_none_of X GG z_tuple
    b_repr := PySem.W.mg_none_of X GG z_repr
    b_str := PySem.W.mg_none_of X GG z_str
    b_isinstance := PySem.W.mg_none_of X GG z_isinstance
    b_dict := PySem.W.mg_none_of X GG z_dict
    b_list := PySem.W.mg_none_of X GG z_list
    b_sorted := PySem.W.mg_none_of X GG z_sorted
    b_range := PySem.W.mg_none_of X GG z_range
    b_zip := PySem.W.mg_none_of X GG z_zip
    b_enumerate := PySem.W.mg_none_of X GG z_enumerate
    b_min := PySem.W.mg_none_of X GG z_min
    v_GONE := .int (-1)
    u_GONE := .int (-1) t_GONE
    m_GONE := PySem.W.mg_of X GG a_GONE
    r_GONE := ⟨_, rfl⟩
    z_GONE := fun _ _ => by simp only [VR]
    v_LETTERS := .str "abcdefghijklmnopqrstuvwxyz"
    u_LETTERS := .str "abcdefghijklmnopqrstuvwxyz" t_LETTERS
    m_LETTERS := PySem.W.mg_of X GG a_LETTERS
    r_LETTERS := ⟨_, rfl⟩
    z_LETTERS := fun _ _ => by simp only [VR]
    v_MOST_NAMES := .int (6)
    u_MOST_NAMES := .int (6) t_MOST_NAMES
    m_MOST_NAMES := PySem.W.mg_of X GG a_MOST_NAMES
    r_MOST_NAMES := ⟨_, rfl⟩
    z_MOST_NAMES := fun _ _ => by simp only [VR]
    v_MOST_POINTS := .int (200)
    u_MOST_POINTS := .int (200) t_MOST_POINTS
    m_MOST_POINTS := PySem.W.mg_of X GG a_MOST_POINTS
    r_MOST_POINTS := ⟨_, rfl⟩
    z_MOST_POINTS := fun _ _ => by simp only [VR]
    v_NOTHING := .int (0)
    u_NOTHING := .int (0) t_NOTHING
    m_NOTHING := PySem.W.mg_of X GG a_NOTHING
    r_NOTHING := ⟨_, rfl⟩
    z_NOTHING := fun _ _ => by simp only [VR]
    hA := fun _ => ⟨⟨pg, hd, po, sa⟩, ha, hn, htk, hm⟩
    n_leads := fun _ => n_leads
    n_spots := fun _ => n_spots
    i_dict := ⟨kit_ty (by decide +kernel), kit_ty (by decide +kernel), kit_ty (by decide +kernel), kit_ty (by decide +kernel), kit_ty (by decide +kernel), kit_ty (by decide +kernel), kit_ty (by decide +kernel)⟩
    nd := fun _ => kit_rt (by decide +kernel) sd
    i_Web := ⟨kit_tr ic tc s_NoneType, kit_tr ic tc s_bool, kit_tr ic tc s_int, kit_tr ic tc s_str, kit_tr ic tc s_tuple, kit_tr ic tc s_list, kit_tr ic tc s_dict⟩
    own_Web := kit_rr
    m_Web := PySem.W.mg_of X GG aC
    mk_Web := mk
    kc_Web := kc
    ne_Web := ne
    nf_Web := fun T h => by rcases h with rfl | rfl | rfl; exact nfl; exact nfs; exact nft
    f_is_word := f_is_word
    fd_is_word := PySem.W.fnOf "is_word" "is_word" (defArgs s_is_word) (defBody s_is_word) (defScope s_is_word) .none kV_is_word dc_is_word pm_is_word an_is_word cd_is_word ct_is_word
    F_is_word := fund_mk (st := s_is_word) l_is_word c_is_word k_is_word (.inl rfl)
    m_is_word := PySem.W.mg_of X GG a_is_word
    f_need_names := f_need_names
    fd_need_names := PySem.W.fnOf "need_names" "need_names" (defArgs s_need_names) (defBody s_need_names) (defScope s_need_names) .none kV_need_names dc_need_names pm_need_names an_need_names cd_need_names ct_need_names
    F_need_names := fund_mk (st := s_need_names) l_need_names c_need_names k_need_names (.inl rfl)
    m_need_names := PySem.W.mg_of X GG a_need_names
    f_is_item := f_is_item
    fd_is_item := PySem.W.fnOf "is_item" "is_item" (defArgs s_is_item) (defBody s_is_item) (defScope s_is_item) .none kV_is_item dc_is_item pm_is_item an_is_item cd_is_item ct_is_item
    F_is_item := fund_mk (st := s_is_item) l_is_item c_is_item k_is_item (.inl rfl)
    m_is_item := PySem.W.mg_of X GG a_is_item
    f_met_from := f_met_from
    fd_met_from := PySem.W.fnOf "met_from" "met_from" (defArgs s_met_from) (defBody s_met_from) (defScope s_met_from) .none kV_met_from dc_met_from pm_met_from an_met_from cd_met_from ct_met_from
    F_met_from := fund_mk (st := s_met_from) l_met_from c_met_from k_met_from (.inl rfl)
    m_met_from := PySem.W.mg_of X GG a_met_from
    dv_Webu_initu := [.ref p0_Webu_initu, .ref p1_Webu_initu]
    dn_Webu_initu := rfl
    dz_Webu_initu := fun _ _ => (VRs.cons (by simp only [VR]; exact ⟨p0_Webu_initu, _, rfl, .inr (.inr ⟨_, its0_Webu_initu, n0_Webu_initu, lp0_Webu_initu, rfl, rfl, vp0_Webu_initu.1, vp0_Webu_initu.2⟩), VRs.nil⟩) (VRs.cons (by simp only [VR]; exact ⟨p1_Webu_initu, _, rfl, .inr (.inr ⟨_, its1_Webu_initu, n1_Webu_initu, lp1_Webu_initu, rfl, rfl, vp1_Webu_initu.1, vp1_Webu_initu.2⟩), VRs.nil⟩) VRs.nil))
    f_Webu_initu := f_Webu_initu
    fd_Webu_initu := PySem.W.fnOf "__init__" "Web.__init__" (defArgs s_Webu_initu) (defBody s_Webu_initu) (defScope s_Webu_initu) (.ref T_Webu_initu) kV_Webu_initu dc_Webu_initu pm_Webu_initu an_Webu_initu cd_Webu_initu ct_Webu_initu
    F_Webu_initu := fund_mkD (st := s_Webu_initu) l_Webu_initu c_Webu_initu k_Webu_initu lT_Webu_initu vT_Webu_initu (by simp) (.inl rfl)
    a_Webu_initu := a_Webu_initu
    g_Webu_initu := g_Webu_initu
    f_Webu_equ := f_Webu_equ
    fd_Webu_equ := PySem.W.fnOf "__eq__" "Web.__eq__" (defArgs s_Webu_equ) (defBody s_Webu_equ) (defScope s_Webu_equ) .none kV_Webu_equ dc_Webu_equ pm_Webu_equ an_Webu_equ cd_Webu_equ ct_Webu_equ
    F_Webu_equ := fund_mk (st := s_Webu_equ) l_Webu_equ c_Webu_equ k_Webu_equ (.inl rfl)
    a_Webu_equ := a_Webu_equ
    g_Webu_equ := g_Webu_equ
    f_Webu_lenu := f_Webu_lenu
    fd_Webu_lenu := PySem.W.fnOf "__len__" "Web.__len__" (defArgs s_Webu_lenu) (defBody s_Webu_lenu) (defScope s_Webu_lenu) .none kV_Webu_lenu dc_Webu_lenu pm_Webu_lenu an_Webu_lenu cd_Webu_lenu ct_Webu_lenu
    F_Webu_lenu := fund_mk (st := s_Webu_lenu) l_Webu_lenu c_Webu_lenu k_Webu_lenu (.inl rfl)
    a_Webu_lenu := a_Webu_lenu
    g_Webu_lenu := g_Webu_lenu
    f_Webu_repru := f_Webu_repru
    fd_Webu_repru := PySem.W.fnOf "__repr__" "Web.__repr__" (defArgs s_Webu_repru) (defBody s_Webu_repru) (defScope s_Webu_repru) .none kV_Webu_repru dc_Webu_repru pm_Webu_repru an_Webu_repru cd_Webu_repru ct_Webu_repru
    F_Webu_repru := fund_mk (st := s_Webu_repru) l_Webu_repru c_Webu_repru k_Webu_repru (.inl rfl)
    a_Webu_repru := a_Webu_repru
    g_Webu_repru := g_Webu_repru
    f_Web_is_heap := f_Web_is_heap
    fd_Web_is_heap := PySem.W.fnOf "is_heap" "Web.is_heap" (defArgs s_Web_is_heap) (defBody s_Web_is_heap) (defScope s_Web_is_heap) .none kV_Web_is_heap dc_Web_is_heap pm_Web_is_heap an_Web_is_heap cd_Web_is_heap ct_Web_is_heap
    F_Web_is_heap := fund_mk (st := s_Web_is_heap) l_Web_is_heap c_Web_is_heap k_Web_is_heap (.inl rfl)
    a_Web_is_heap := a_Web_is_heap
    g_Web_is_heap := g_Web_is_heap
    f_mark := f_mark
    fd_mark := PySem.W.fnOf "mark" "mark" (defArgs s_mark) (defBody s_mark) (defScope s_mark) .none kV_mark dc_mark pm_mark an_mark cd_mark ct_mark
    F_mark := fund_mk (st := s_mark) l_mark c_mark k_mark (.inl rfl)
    m_mark := PySem.W.mg_of X GG a_mark
    f_web_text := f_web_text
    fd_web_text := PySem.W.fnOf "web_text" "web_text" (defArgs s_web_text) (defBody s_web_text) (defScope s_web_text) .none kV_web_text dc_web_text pm_web_text an_web_text cd_web_text ct_web_text
    F_web_text := fund_mk (st := s_web_text) l_web_text c_web_text k_web_text (.inl rfl)
    m_web_text := PySem.W.mg_of X GG a_web_text
    f__law_cell := f__law_cell
    fd__law_cell := PySem.W.fnOf "_law_cell" "_law_cell" (defArgs s__law_cell) (defBody s__law_cell) (defScope s__law_cell) .none kV__law_cell dc__law_cell pm__law_cell an__law_cell cd__law_cell ct__law_cell
    F__law_cell := fund_mk (st := s__law_cell) l__law_cell c__law_cell k__law_cell (.inl rfl)
    m__law_cell := PySem.W.mg_of X GG a__law_cell
    f__law_digits := f__law_digits
    fd__law_digits := PySem.W.fnOf "_law_digits" "_law_digits" (defArgs s__law_digits) (defBody s__law_digits) (defScope s__law_digits) .none kV__law_digits dc__law_digits pm__law_digits an__law_digits cd__law_digits ct__law_digits
    F__law_digits := fund_mk (st := s__law_digits) l__law_digits c__law_digits k__law_digits (.inl rfl)
    m__law_digits := PySem.W.mg_of X GG a__law_digits
    f__law_same := f__law_same
    fd__law_same := PySem.W.fnOf "_law_same" "_law_same" (defArgs s__law_same) (defBody s__law_same) (defScope s__law_same) .none kV__law_same dc__law_same pm__law_same an__law_same cd__law_same ct__law_same
    F__law_same := fund_mk (st := s__law_same) l__law_same c__law_same k__law_same (.inl rfl)
    m__law_same := PySem.W.mg_of X GG a__law_same
    f__law_names := f__law_names
    fd__law_names := PySem.W.fnOf "_law_names" "_law_names" (defArgs s__law_names) (defBody s__law_names) (defScope s__law_names) .none kV__law_names dc__law_names pm__law_names an__law_names cd__law_names ct__law_names
    F__law_names := fund_mk (st := s__law_names) l__law_names c__law_names k__law_names (.inl rfl)
    m__law_names := PySem.W.mg_of X GG a__law_names
    f__law_met := f__law_met
    fd__law_met := PySem.W.fnOf "_law_met" "_law_met" (defArgs s__law_met) (defBody s__law_met) (defScope s__law_met) .none kV__law_met dc__law_met pm__law_met an__law_met cd__law_met ct__law_met
    F__law_met := fund_mk (st := s__law_met) l__law_met c__law_met k__law_met (.inl rfl)
    m__law_met := PySem.W.mg_of X GG a__law_met
    f__law_canon := f__law_canon
    fd__law_canon := PySem.W.fnOf "_law_canon" "_law_canon" (defArgs s__law_canon) (defBody s__law_canon) (defScope s__law_canon) .none kV__law_canon dc__law_canon pm__law_canon an__law_canon cd__law_canon ct__law_canon
    F__law_canon := fund_mk (st := s__law_canon) l__law_canon c__law_canon k__law_canon (.inl rfl)
    m__law_canon := PySem.W.mg_of X GG a__law_canon
    f__law_spots := f__law_spots
    fd__law_spots := PySem.W.fnOf "_law_spots" "_law_spots" (defArgs s__law_spots) (defBody s__law_spots) (defScope s__law_spots) .none kV__law_spots dc__law_spots pm__law_spots an__law_spots cd__law_spots ct__law_spots
    F__law_spots := fund_mk (st := s__law_spots) l__law_spots c__law_spots k__law_spots (.inl rfl)
    m__law_spots := PySem.W.mg_of X GG a__law_spots
    f__law_made := f__law_made
    fd__law_made := PySem.W.fnOf "_law_made" "_law_made" (defArgs s__law_made) (defBody s__law_made) (defScope s__law_made) .none kV__law_made dc__law_made pm__law_made an__law_made cd__law_made ct__law_made
    F__law_made := fund_mk (st := s__law_made) l__law_made c__law_made k__law_made (.inl rfl)
    m__law_made := PySem.W.mg_of X GG a__law_made
    f__law_mark := f__law_mark
    fd__law_mark := PySem.W.fnOf "_law_mark" "_law_mark" (defArgs s__law_mark) (defBody s__law_mark) (defScope s__law_mark) .none kV__law_mark dc__law_mark pm__law_mark an__law_mark cd__law_mark ct__law_mark
    F__law_mark := fund_mk (st := s__law_mark) l__law_mark c__law_mark k__law_mark (.inl rfl)
    m__law_mark := PySem.W.mg_of X GG a__law_mark
    f__law_text := f__law_text
    fd__law_text := PySem.W.fnOf "_law_text" "_law_text" (defArgs s__law_text) (defBody s__law_text) (defScope s__law_text) .none kV__law_text dc__law_text pm__law_text an__law_text cd__law_text ct__law_text
    F__law_text := fund_mk (st := s__law_text) l__law_text c__law_text k__law_text (.inl rfl)
    m__law_text := PySem.W.mg_of X GG a__law_text
    f__law_raw := f__law_raw
    fd__law_raw := PySem.W.fnOf "_law_raw" "_law_raw" (defArgs s__law_raw) (defBody s__law_raw) (defScope s__law_raw) .none kV__law_raw dc__law_raw pm__law_raw an__law_raw cd__law_raw ct__law_raw
    F__law_raw := fund_mk (st := s__law_raw) l__law_raw c__law_raw k__law_raw (.inl rfl)
    m__law_raw := PySem.W.mg_of X GG a__law_raw
    f__law_turned := f__law_turned
    fd__law_turned := PySem.W.fnOf "_law_turned" "_law_turned" (defArgs s__law_turned) (defBody s__law_turned) (defScope s__law_turned) .none kV__law_turned dc__law_turned pm__law_turned an__law_turned cd__law_turned ct__law_turned
    F__law_turned := fund_mk (st := s__law_turned) l__law_turned c__law_turned k__law_turned (.inl rfl)
    m__law_turned := PySem.W.mg_of X GG a__law_turned
    f_law := f_law
    fd_law := PySem.W.fnOf "law" "law" (defArgs s_law) (defBody s_law) (defScope s_law) .none kV_law dc_law pm_law an_law cd_law ct_law
    F_law := fund_mk (st := s_law) l_law c_law k_law (.inl rfl)
    m_law := PySem.W.mg_of X GG a_law
  }
  exact ⟨R.fd_law, bndU (ps := ["_law_script"]) R.F_law fun _ _ _ _ _ _ _ => rfl, fun base _ _ => ok_law R (all_n R 10) hlaw⟩
end K03
set_option Elab.async false
set_option linter.all false
set_option maxRecDepth 100000
set_option maxHeartbeats 4000000
namespace K03
open PySem L2 Oz

def abc : Str := "abcdefghijklmnopqrstuvwxyz"
structure Word (z : Str) : Prop where
  lo : 1 ≤ z.length
  hi : z.length ≤ 6
  al : ∀ c ∈ z.cps.toList, c ∈ abc.cps.toList

theorem cal_nx {M : Mach} {d : Dfn} {xs : List Vl} {S T : Hs} {η : Sg} (hl : xs.length = d.np) (hb : exec M d.body (xs.map some ++ List.replicate (d.nn - xs.length) none) S = .nx η (S ++ T)) (hS : NR S) : calD M d xs S = .ok (.val .non) S := by
  unfold calD
  rw [if_pos hl, hb]
  simp only
  have ht : (S ++ T).take S.length = S := by simp
  have hT : NR ((S ++ T).take S.length) := by rw [ht]; exact hS
  rw [finR_val hT (by simp only [Vl.nr]), ht]
theorem allB_true {α : Type} : ∀ xs : List α, allB (xs.map fun _ => Vl.bl true) = some (xs.map fun _ => true)
  | [] => rfl
  | x :: xs => by simp only [List.map_cons, allB, isBl, allB_true xs]
theorem all_map_true {α : Type} (xs : List α) : (xs.map fun _ => true).all id = true := by simp
theorem all_true {α : Type} (S : Hs) (xs : List α) : b1op .all S (.lst (xs.map fun _ => Vl.bl true)) = some (.bl true) := by
  simp only [b1op, lstOf, Option.bind_some, allB_true, Option.map_some, all_map_true]
theorem charsL_mem {z : Str} {x : Vl} (h : x ∈ charsL z) : ∃ c ∈ z.cps.toList, x = .str ⟨#[c]⟩ := by
  unfold charsL at h
  obtain ⟨c, h1, rfl⟩ := List.mem_map.mp h
  exact ⟨c, h1, rfl⟩
theorem charsL_len (z : Str) : (charsL z).length = z.length := by
  unfold charsL
  rw [List.length_map]; rfl
theorem small_sz {n : Nat} (h : n ≤ 1000000) : n ≤ sizeLine := Nat.le_trans h (by decide)
theorem e_is_word (n : Nat) {z : Str} (h : ∀ c ∈ z.cps.toList, c ∈ abc.cps.toList) (hz : z.length ≤ 1000) {a b c : Option Vl} (S : Hs) : evf (Mn n) q1_is_word [some (.str z), a, b, c] S = .ok (.lst ((charsL z).map fun _ => .bl true)) S := by
  unfold q1_is_word
  refine ev_compM [] (charsL z) (fun _ => .bl true) (ev_chars (v_var rfl)) (lock_nil S) (by rw [charsL_len]; omega) (fun x _ => by simp only [Vl.nr]) fun x hx acc _ => ?_
  obtain ⟨d, hd, rfl⟩ := charsL_mem hx
  have hd2 := h d hd
  refine ⟨_, rfl, v_cmp (v_var rfl) v_cst ?_⟩
  simp only [cmpop, memF]
  rw [if_pos (show (⟨#[d]⟩ : Str).length = 1 from rfl)]
  exact congrArg some (decide_eq_true hd2)
theorem r_word (n : Nat) {z : Str} (h : ∀ c ∈ z.cps.toList, c ∈ abc.cps.toList) (hz : z.length ≤ 1000) {lo hi : Int} (h1 : lo ≤ z.length) (h2 : z.length ≤ hi) {S : Hs} (hS : NR S) : (Mn (n + 1)).cal "is_word" [.str z, .int lo, .int hi] S = .ok (.val (.bl true)) S := by
  rw [u_is_word]
  refine cal_val (T := []) rfl ?_ hS (by simp only [Vl.nr])
  show exec (Mn n) b_is_word [some (.str z), some (.int lo), some (.int hi), none] S = _
  have hl : b1op .len S (.str z) = some (.int z.length) := if_pos (small_sz (by omega))
  rw [List.append_nil]
  refine ex_ret (x_ret _ _ (v_and1 (v_chn (d1 := true) (v_var rfl) (v_b1 (v_var rfl) hl) (congrArg some (decide_eq_true h1)) (v_var rfl) (congrArg some (decide_eq_true h2))) (v_b1 (v_inl (e_is_word n h hz S)) (all_true S _))))
theorem r_is_word (n : Nat) {z : Str} (h : Word z) {S : Hs} (hS : NR S) : (Mn (n + 1)).cal "is_word" [.str z, .int 1, .int 6] S = .ok (.val (.bl true)) S :=
  r_word n h.al (by have := h.hi; omega) (by have := h.lo; omega) (by have := h.hi; omega) hS
/-! ### names -/
abbrev Nms := List (Str × Int)
def valN (nm : Nms) : List Vl := nm.map fun p => .tup [.str p.1, .int p.2]
theorem valN_nr (nm : Nms) : nrs (valN nm) = true := nrs_of fun x hx => by
  obtain ⟨p, _, rfl⟩ := List.mem_map.mp hx
  simp [Vl.nr, nrs]
theorem valN_len (nm : Nms) : (valN nm).length = nm.length := by unfold valN; rw [List.length_map]
theorem valN_at {nm : Nms} {i : Nat} {x : Vl} (h : (valN nm)[i]? = some x) : ∃ p, nm[i]? = some p ∧ x = .tup [.str p.1, .int p.2] := by
  unfold valN at h
  rw [List.getElem?_map] at h
  obtain ⟨p, h1, rfl⟩ := Option.map_eq_some_iff.mp h
  exact ⟨p, h1, rfl⟩
theorem take_succ_at {α : Type} {xs : List α} {i : Nat} {x : α} (h : xs[i]? = some x) : xs.take (i + 1) = xs.take i ++ [x] := by
  rw [List.take_add_one, h]; rfl
theorem not_in_take {α : Type} {xs : List α} {i : Nat} {x : α} (nd : xs.Nodup) (h : xs[i]? = some x) : x ∉ xs.take i := fun hx => by
  obtain ⟨j, hj⟩ := List.getElem?_of_mem hx
  rw [List.getElem?_take] at hj
  split at hj
  · rename_i hl
    have := (List.getElem?_inj ((List.getElem?_eq_some_iff.mp hj).1) nd).mp (hj.trans h.symm)
    omega
  · cases hj
theorem r_need_names (n : Nat) {nm : Nms} (hw : ∀ p ∈ nm, Word p.1) (nd : (nm.map (·.1)).Nodup) (hl : nm.length ≤ 1000) {v : Vl} (hv : ∀ S, walkS S v = some ([], valN nm)) {S : Hs} (hS : NR S) : (Mn (n + 2)).cal "need_names" [v] S = .ok (.val .non) S := by
  rw [u_need_names]
  have key : ∃ η T, exec (Mn (n + 1)) b_need_names [some v, none, none, none] S = .nx η (S ++ T) := by
    obtain ⟨η', S', h1, vs, a2, a3, rfl, rfl, _, _⟩ := for_ok (body := fun η1 S2 => exec (Mn (n + 1)) w1_need_names η1 S2) (t := .tp (.cons (.nm 2) (.cons (.nm 3) .nil))) (lk := []) (xs := valN nm) (η := [some v, some (.ref S.length), none, none]) (S := S ++ [.dct [] []])
      (fun i η S' => ∃ vs a2 a3, η = [some v, some (.ref S.length), a2, a3] ∧ S' = S ++ [.dct (((nm.map (·.1)).take i).map Sum.inr) vs] ∧ vs.length = ((nm.map (·.1)).take i).length ∧ nrs vs = true)
      ⟨[], none, none, rfl, rfl, rfl, by simp only [nrs]⟩ (fun i η S' _ => lock_nil _) fun i x η S' hx ⟨vs, a2, a3, e1, e2, e3, e4⟩ => by
        subst e1 e2
        obtain ⟨p, hp, rfl⟩ := valN_at hx
        have hp1 : (nm.map (·.1))[i]? = some p.1 := by rw [List.getElem?_map, hp]; rfl
        have hS1 : NR (S ++ [.dct (((nm.map (·.1)).take i).map Sum.inr) vs]) := hS.one (by simpa only [Ob.nr] using e4)
        have hni := not_in_take nd hp1
        refine ⟨_, rfl, _, _, .inl (ex_nx (x_ite0 _ (v_or0 (v_bnot (v_call (r := .val (.bl true)) (vs_cons (v_var rfl) (vs_cons v_cst (vs_cons v_cst vs_nil))) (r_is_word n (hw p (List.mem_of_getElem? hp)) hS1))) (v_cmp (v_var rfl) (v_var rfl) ?_)) ex_nil) (ex_nx (x_iset v_cst (v_var rfl) (v_var rfl) (iset_dct (kk := Sum.inr p.1) List.getElem?_concat_length rfl ?_)) ex_nil)), ?_⟩
        · show memF _ (.str p.1) (.ref S.length) = some false
          rw [memF_dcts (ks := ((nm.map (·.1)).take i).map Sum.inr) (vs := vs) (by simp only [dctOf, List.getElem?_concat_length])]
          congr 1
          rw [List.any_eq_false]
          intro k hk
          obtain ⟨z, hz, rfl⟩ := List.mem_map.mp hk
          rw [decide_eq_true_eq]
          intro e
          exact hni (Sum.inr.inj e ▸ hz)
        · have := (List.getElem?_eq_some_iff.mp hp).1
          simp only [List.length_take, List.length_map]; omega
        · refine ⟨vs ++ [.bl true], _, _, rfl, ?_, ?_, nrs_append e4 (by simp [nrs, Vl.nr])⟩
          · rw [put_new_ (fun hk => by
              obtain ⟨z, hz, e⟩ := List.mem_map.mp hk
              exact hni (Sum.inr.inj e ▸ hz)), take_succ_at hp1, List.map_append]
            simp
          · rw [take_succ_at hp1, List.length_append, List.length_append, e3]; rfl
    refine ⟨_, _, ex_nx (x_asg _ _ (v_alc f_dct0) rfl) (ex_nx (x_for _ _ _ (ev_sq (v_var rfl) (hv _)) h1) ex_nil)⟩
  obtain ⟨η, T, h⟩ := key
  exact cal_nx rfl h hS
/-! ### items -/
abbrev Its := List (Str × List Int)
def valI (it : Its) : List Vl := it.map fun p => .tup [.str p.1, .tup (p.2.map .int)]
theorem valI_nr (it : Its) : nrs (valI it) = true := nrs_of fun x hx => by
  obtain ⟨p, _, rfl⟩ := List.mem_map.mp hx
  simp [Vl.nr, nrs, nrs_map_int]
theorem valI_len (it : Its) : (valI it).length = it.length := by unfold valI; rw [List.length_map]
theorem valI_at {it : Its} {i : Nat} {x : Vl} (h : (valI it)[i]? = some x) : ∃ p, it[i]? = some p ∧ x = .tup [.str p.1, .tup (p.2.map .int)] := by
  unfold valI at h
  rw [List.getElem?_map] at h
  obtain ⟨p, h1, rfl⟩ := Option.map_eq_some_iff.mp h
  exact ⟨p, h1, rfl⟩
theorem valI_get {it : Its} {i : Nat} {p : Str × List Int} (h : it[i]? = some p) : (valI it)[i]? = some (.tup [.str p.1, .tup (p.2.map .int)]) := by
  unfold valI; rw [List.getElem?_map, h]; rfl
/-- a thing that may stand in a web of many -/
structure Item (many : Nat) (p : Str × List Int) : Prop where
  w : (p.1 = "cell" ∧ p.2.length = 2) ∨ (p.1 = "list" ∧ p.2.length = 0) ∨ (p.1 = "seg" ∧ p.2.length = 1)
  t : ∀ t ∈ p.2, -1 ≤ t ∧ t ≤ many
theorem Item.small {many : Nat} {p : Str × List Int} (h : Item many p) : p.2.length ≤ 2 := by
  rcases h.w with ⟨_, h⟩ | ⟨_, h⟩ | ⟨_, h⟩ <;> omega
theorem rng_true {n : Nat} {lo hi : Int} {ts : List Int} (h : ∀ t ∈ ts, lo ≤ t ∧ t ≤ hi) (hl : ts.length ≤ 1000) {w : Vl} {a : Option Vl} {b : Option Vl} (S : Hs) (hlo : lo = -1) : evf (Mn n) q1_is_item [some w, some (.tup (ts.map .int)), some (.int hi), a, b] S = .ok (.lst ((ts.map Vl.int).map fun _ => .bl true)) S := by
  subst hlo
  unfold q1_is_item
  refine ev_compM [] (ts.map .int) (fun _ => .bl true) (ev_sq (v_var rfl) rfl) (lock_nil S) (by rw [List.length_map]; omega) (fun x _ => by simp only [Vl.nr]) fun x hx acc _ => ?_
  obtain ⟨t, ht, rfl⟩ := List.mem_map.mp hx
  obtain ⟨h1, h2⟩ := h t ht
  exact ⟨_, rfl, v_chn (d1 := true) v_cst (v_var rfl) (congrArg some (decide_eq_true h1)) (v_var rfl) (congrArg some (decide_eq_true h2))⟩
theorem r_is_item (n : Nat) {many : Nat} {p : Str × List Int} (h : Item many p) {S : Hs} (hS : NR S) : (Mn (n + 2)).cal "is_item" [.str p.1, .tup (p.2.map .int), .int many] S = .ok (.val (.bl true)) S := by
  rw [u_is_item]
  refine cal_val (T := []) rfl ?_ hS (by simp only [Vl.nr])
  show exec (Mn (n + 1)) b_is_item [some (.str p.1), some (.tup (p.2.map .int)), some (.int many), none, none] S = _
  rw [List.append_nil]
  have fin : exec (Mn (n + 1)) (.cons (.ret (.band (.var 3) (.b1 .all (.inl q1_is_item)))) .nil) [some (.str p.1), some (.tup (p.2.map .int)), some (.int many), some (.bl true), none] S = .ret (.val (.bl true)) S :=
    ex_ret (x_ret _ _ (v_and1 (v_var rfl) (v_b1 (v_inl (rng_true h.t (by have := h.small; omega) S rfl)) (all_true S _))))
  have ln : ∀ S, b1op .len S (.tup (p.2.map Vl.int)) = some (.int p.2.length) := fun S => by rw [len_tup, List.length_map]
  rcases h.w with ⟨h1, h2⟩ | h1
  · refine ex_nx (x_ite1 _ (v_cmp (v_var rfl) v_cst ?_) (ex_nx (x_asg _ _ (v_cmp (v_b1 (v_var rfl) (ln S)) v_cst ?_) rfl) ex_nil)) fin
    · show some (decide (p.1 = "cell")) = some true
      rw [h1]; rfl
    · show some (decide ((p.2.length : Int) = 2)) = some true
      rw [h2]; rfl
  · have hz : p.1 = "list" ∨ p.1 = "seg" := h1.imp (·.1) (·.1)
    have hs := h.small
    refine ex_nx (x_ite0 _ (v_cmp (v_var rfl) v_cst ?_) (ex_nx (x_asg _ _ (v_and1 (v_call (r := .val (.bl true)) (vs_cons (v_var rfl) (vs_cons v_cst (vs_cons v_cst vs_nil))) (r_word n ?_ ?_ ?_ ?_ hS)) (v_cmp (v_b1 (v_var rfl) (ln S)) v_cst ?_)) rfl) ex_nil)) fin
    · show some (decide (p.1 = "cell")) = some false
      rcases hz with hz | hz <;> (rw [hz]; rfl)
    · rcases hz with hz | hz <;> (rw [hz]; decide)
    · rcases hz with hz | hz <;> (rw [hz]; decide)
    · rcases hz with hz | hz <;> (rw [hz]; decide)
    · rcases hz with hz | hz <;> (rw [hz]; decide)
    · show some (decide ((p.2.length : Int) ≤ 2)) = some true
      exact congrArg some (decide_eq_true (by omega))
end K03
set_option Elab.async false
set_option linter.all false
set_option maxRecDepth 100000
set_option maxHeartbeats 4000000
namespace K03
open PySem L2 Oz

def zs (ns : List Int) : Vl := .lst (ns.map .int)
theorem zs_nr (ns : List Int) : (zs ns).nr = true := by simp only [zs, Vl.nr, nrs_map_int]
theorem get_ints {ns : List Int} {i : Nat} {x : Vl} (h : (ns.map Vl.int)[i]? = some x) : ∃ z, ns[i]? = some z ∧ x = .int z := by
  rw [List.getElem?_map] at h
  obtain ⟨z, h1, rfl⟩ := Option.map_eq_some_iff.mp h
  exact ⟨z, h1, rfl⟩
theorem r_cell (n : Nat) (ns : List Int) {k : Nat} {S : Hs} (hS : NR S) : ∃ z : Int, (Mn (n + 1)).cal "_law_cell" [zs ns, .int k] S = .ok (.val (.int z)) S := by
  by_cases hk : k < ns.length
  · obtain ⟨z, hz⟩ : ∃ z, ns[k]? = some z := ⟨_, List.getElem?_eq_getElem hk⟩
    refine ⟨z, ?_⟩
    rw [u__law_cell]
    refine cal_val (T := []) rfl ?_ hS (by simp only [Vl.nr])
    show exec (Mn n) b__law_cell [some (zs ns), some (.int k), none, none] S = _
    have h1 : decide ((k : Int) < (((ns.map Vl.int).length : Nat) : Int)) = true := decide_eq_true (by rw [List.length_map]; omega)
    have h2 : (ns.map Vl.int)[k]? = some (.int z) := by rw [List.getElem?_map, hz]; rfl
    unfold b__law_cell
    simp only [Oz.exec, exc1, ev, Res.out, Res.bind, List.getElem?_cons_zero, List.getElem?_cons_succ, zs, len_lst, ofO, cmpop, h1, ix_lst h2, List.append_nil]
  · have h1 : decide ((k : Int) < (((ns.map Vl.int).length : Nat) : Int)) = false := decide_eq_false (by rw [List.length_map]; omega)
    obtain ⟨η', S', e1, e2, b, a3, hb0, hb1, e3⟩ := for_ok (body := fun η1 S2 => Oz.exec (Mn n) w1__law_cell η1 S2) (t := .nm 3) (lk := []) (xs := ns.map Vl.int) (η := [some (zs ns), some (.int k), some (.int 17), none]) (S := S)
      (fun i η T => T = S ∧ ∃ (b : Int) (a3 : Option Vl), 0 ≤ b ∧ b < 1000003 ∧ η = [some (zs ns), some (.int k), some (.int b), a3]) ⟨rfl, 17, none, by omega, by omega, rfl⟩ (fun _ _ _ _ => lock_nil _)
      (fun i x η T ex ⟨q1, b, a3, q2, q3, q4⟩ => by
        subst q1 q4
        obtain ⟨z, _, rfl⟩ := get_ints ex
        refine ⟨_, rfl, [some (zs ns), some (.int k), some (.int ((b * 31 + z) % 1000003)), some (.int z)], T, .inl ?_, rfl, _, _, Int.emod_nonneg _ (by omega), Int.emod_lt_of_pos _ (by omega), rfl⟩
        unfold w1__law_cell
        simp only [Oz.exec, exc1, ev, Res.out, Res.bind, List.getElem?_cons_zero, List.getElem?_cons_succ, List.set_cons_zero, List.set_cons_succ, ofO, bindT, b_add, b_mulR (i := b) (j := 31) (by omega) (by omega), b_mod (j := 1000003) (by omega)])
    subst e2 e3
    refine ⟨(b + 1) * (k + 3) * 7919 % 2147483629, ?_⟩
    rw [u__law_cell]
    refine cal_val (T := []) rfl ?_ hS (by simp only [Vl.nr])
    show exec (Mn n) b__law_cell [some (zs ns), some (.int k), none, none] S' = _
    have m1 := b_mulL (i := b + 1) (j := k + 3) (by omega) (by omega)
    unfold b__law_cell
    simp only [zs] at e1
    simp only [Oz.exec, exc1, ev, evS, walkS, Res.out, Res.bind, List.getElem?_cons_zero, List.getElem?_cons_succ, List.set_cons_zero, List.set_cons_succ, bindT, zs, len_lst, ofO, cmpop, h1, e1, b_add, m1, b_mulR (i := (b + 1) * (k + 3)) (j := 7919) (by omega) (by omega), b_mod (j := 2147483629) (by omega), List.append_nil]
/-- digits: within their sizes -/
structure Digs (sizes ds : List Int) : Prop where
  len : ds.length = sizes.length
  at_ : ∀ (i : Nat) (d s : Int), ds[i]? = some d → sizes[i]? = some s → 0 ≤ d ∧ d < s
theorem app_range {sizes ds : List Int} {y s : Int} (h : ∀ (i : Nat) (d s : Int), ds[i]? = some d → sizes[i]? = some s → 0 ≤ d ∧ d < s) (hs : sizes[ds.length]? = some s) (h0 : 0 ≤ y) (h1 : y < s) : ∀ (i : Nat) (d s : Int), (ds ++ [y])[i]? = some d → sizes[i]? = some s → 0 ≤ d ∧ d < s := by
  intro i d s' e1 e2
  by_cases hi : i < ds.length
  · rw [List.getElem?_append_left hi] at e1
    exact h i d s' e1 e2
  · by_cases hj : i = ds.length
    · subst hj
      rw [List.getElem?_concat_length] at e1
      cases e1
      rw [hs] at e2; cases e2
      exact ⟨h0, h1⟩
    · rw [List.getElem?_eq_none (by simp; omega)] at e1; cases e1
theorem digits_big (n : Nat) (ns : List Int) {k : Nat} {sizes : List Int} (hz : ∀ s ∈ sizes, 0 < s ∧ s < 1073741824) (hl : sizes.length ≤ 1000) {S : Hs} (hS : NR S) {c p : Int} (hc : (Mn (n + 1)).cal "_law_cell" [zs ns, .int k] S = .ok (.val (.int c)) S) (hp : binop .Pow (.int 10) (.int 18) = some (.int p)) (hb : p ≤ c) : ∃ ds : List Int, Digs sizes ds ∧ (Mn (n + 2)).cal "_law_digits" [zs ns, .int k, zs sizes] S = .ok (.frs (.lst (ds.map .int))) S := by
  obtain ⟨η', S', e1, ds, rest, a6, hd, hd2, e2, e3⟩ := for_ok (body := fun η1 S2 => Oz.exec (Mn (n + 1)) w1__law_digits η1 S2) (t := .nm 6) (lk := []) (xs := sizes.map Vl.int) (η := [some (zs ns), some (.int k), some (zs sizes), some (.int c), some (.ref S.length), some (.int (c - p)), none, none, none, none]) (S := S ++ [.lst []])
    (fun i η T => ∃ (ds : List Int) (rest : Int) (a6 : Option Vl), ds.length = i ∧ (∀ (i : Nat) (d s : Int), ds[i]? = some d → sizes[i]? = some s → 0 ≤ d ∧ d < s) ∧ T = S ++ [.lst (ds.map .int)] ∧ η = [some (zs ns), some (.int k), some (zs sizes), some (.int c), some (.ref S.length), some (.int rest), a6, none, none, none])
    ⟨[], _, none, rfl, fun i d s e => by simp at e, rfl, rfl⟩ (fun _ _ _ _ => lock_nil _)
    (fun i x η T ex ⟨ds, rest, a6, q1, q2, q3, q4⟩ => by
      subst q3 q4
      obtain ⟨s, hs, rfl⟩ := get_ints ex
      have ss := hz s (List.mem_of_getElem? hs)
      have il : i < sizes.length := (List.getElem?_eq_some_iff.mp hs).1
      refine ⟨_, rfl, [some (zs ns), some (.int k), some (zs sizes), some (.int c), some (.ref S.length), some (.int (rest / s)), some (.int s), none, none, none], S ++ [.lst ((ds ++ [rest % s]).map .int)], .inl ?_, ds ++ [rest % s], _, _, by simp [q1], app_range q2 (by rw [q1]; exact hs) (Int.emod_nonneg _ (by omega)) (Int.emod_lt_of_pos _ ss.1), rfl, rfl⟩
      have hm := mut_app (xs := ds.map Vl.int) (y := .int (rest % s)) (by rw [List.length_map]; omega)
      unfold w1__law_digits
      simp only [Oz.exec, exc1, ev, evs, Res.out, Res.bind, List.getElem?_cons_zero, List.getElem?_cons_succ, List.set_cons_zero, List.set_cons_succ, ofO, bindT, lstAt_last, b_mod ss.1, b_fdiv ss.1 ss.2, List.getElem?_concat_length, hm, set_last, List.map_append, List.map_cons, List.map_nil])
  subst e2 e3
  refine ⟨ds, ⟨by rw [hd, List.length_map], hd2⟩, ?_⟩
  rw [u__law_digits]
  refine cal_ref (r := 0) (T := [.lst (ds.map .int)]) rfl ?_ hS rfl (nrs_map_int _)
  show exec (Mn (n + 1)) b__law_digits [some (zs ns), some (.int k), some (zs sizes), none, none, none, none, none, none, none] S = _
  have h1 : decide (p ≤ c) = true := decide_eq_true hb
  unfold b__law_digits
  simp only [zs] at e1 hc
  simp only [Oz.exec, exc1, ev, evs, evf, evS, walkS, Res.out, Res.bind, List.getElem?_cons_zero, List.getElem?_cons_succ, List.set_cons_zero, List.set_cons_succ, bindT, zs, ofO, calV, hc, Rv.v, List.length_nil, sizeLine, Nat.zero_le, if_true, hp, cmpop, h1, b_sub, e1, Nat.add_zero]
theorem digits_small (n : Nat) (ns : List Int) {k : Nat} {sizes : List Int} (hz : ∀ s ∈ sizes, 0 < s ∧ s < 1073741824) (hl : sizes.length ≤ 1000) {S : Hs} (hS : NR S) {c p : Int} (hc : (Mn (n + 1)).cal "_law_cell" [zs ns, .int k] S = .ok (.val (.int c)) S) (hp : binop .Pow (.int 10) (.int 18) = some (.int p)) (hb : ¬ p ≤ c) : ∃ ds : List Int, Digs sizes ds ∧ (Mn (n + 2)).cal "_law_digits" [zs ns, .int k, zs sizes] S = .ok (.frs (.lst (ds.map .int))) S := by
  obtain ⟨η', S', e1, ds, one, a8, a9, hd, h0, hq, hd2, e2, e3⟩ := for_ok (body := fun η1 S2 => Oz.exec (Mn (n + 1)) w2__law_digits η1 S2) (t := .nm 8) (lk := []) (xs := rngL 0 sizes.length) (η := [some (zs ns), some (.int k), some (zs sizes), some (.int c), some (.ref S.length), none, none, some (.int (c % 2147483647)), none, none]) (S := S ++ [.lst []])
    (fun i η T => ∃ (ds : List Int) (one : Int) (a8 a9 : Option Vl), ds.length = i ∧ 0 ≤ one ∧ one < 2147483648 ∧ (∀ (i : Nat) (d s : Int), ds[i]? = some d → sizes[i]? = some s → 0 ≤ d ∧ d < s) ∧ T = S ++ [.lst (ds.map .int)] ∧ η = [some (zs ns), some (.int k), some (zs sizes), some (.int c), some (.ref S.length), none, none, some (.int one), a8, a9])
    ⟨[], _, none, none, rfl, Int.emod_nonneg _ (by omega), Int.lt_trans (Int.emod_lt_of_pos _ (by omega)) (by omega), fun i d s e => by simp at e, rfl, rfl⟩ (fun _ _ _ _ => lock_nil _)
    (fun i x η T ex ⟨ds, one, a8, a9, q1, p0, p1, q2, q3, q4⟩ => by
      subst q3 q4
      obtain ⟨il, rfl⟩ := rng_at ex
      obtain ⟨s, hs⟩ : ∃ s, sizes[i]? = some s := ⟨_, List.getElem?_eq_getElem il⟩
      have ss := hz s (List.mem_of_getElem? hs)
      have hs2 : (sizes.map Vl.int)[i]? = some (.int s) := by rw [List.getElem?_map, hs]; rfl
      obtain ⟨one', ho⟩ : ∃ o, o = (one * 48271 + 10007 * ((i : Int) + 1)) % 2147483629 := ⟨_, rfl⟩
      have o0 : 0 ≤ one' := by rw [ho]; exact Int.emod_nonneg _ (by omega)
      have o1 : one' < 2147483629 := by rw [ho]; exact Int.emod_lt_of_pos _ (by omega)
      obtain ⟨two, ht⟩ : ∃ o, o = (one' * one' + 69621 * one' + (i : Int)) % 2147483563 := ⟨_, rfl⟩
      refine ⟨_, rfl, [some (zs ns), some (.int k), some (zs sizes), some (.int c), some (.ref S.length), none, none, some (.int one'), some (.int i), some (.int two)], S ++ [.lst ((ds ++ [two / 11 % s]).map .int)], .inl ?_, ds ++ [two / 11 % s], one', _, _, by simp [q1], o0, by omega, app_range q2 (by rw [q1]; exact hs) (Int.emod_nonneg _ (by omega)) (Int.emod_lt_of_pos _ ss.1), rfl, rfl⟩
      have hm := mut_app (xs := ds.map Vl.int) (y := .int (two / 11 % s)) (by rw [List.length_map]; omega)
      unfold w2__law_digits
      simp only [Oz.exec, exc1, ev, evs, Res.out, Res.bind, List.getElem?_cons_zero, List.getElem?_cons_succ, List.set_cons_zero, List.set_cons_succ, ofO, bindT, lstAt_last, b_add, b_mulR (i := one) (j := 48271) (by omega) (by omega), b_mulL (i := 10007) (j := (i : Int) + 1) (by omega) (by omega), b_mod (j := 2147483629) (by omega), ← ho,
        b_mulL (i := one') (j := one') (by omega) (by omega), b_mulL (i := 69621) (j := one') (by omega) (by omega), b_mod (j := 2147483563) (by omega), ← ht, b_fdiv (i := two) (j := 11) (by omega) (by omega), zs, ix_lst hs2, b_mod ss.1, List.getElem?_concat_length, hm, set_last, List.map_append, List.map_cons, List.map_nil])
  subst e2 e3
  refine ⟨ds, ⟨by rw [hd, rngL_len], hd2⟩, ?_⟩
  rw [u__law_digits]
  refine cal_ref (r := 0) (T := [.lst (ds.map .int)]) rfl ?_ hS rfl (nrs_map_int _)
  show exec (Mn (n + 1)) b__law_digits [some (zs ns), some (.int k), some (zs sizes), none, none, none, none, none, none, none] S = _
  have h1 : decide (p ≤ c) = false := decide_eq_false hb
  have es : evS (Mn (n + 1)) (.rng1 (.b1 .len (.var 2))) [some (zs ns), some (.int k), some (zs sizes), some (.int c), some (.ref S.length), none, none, some (.int (c % 2147483647)), none, none] (S ++ [.lst []]) = .ok ([], rngL 0 sizes.length) (S ++ [.lst []]) := ev_rng1 (by simp only [ev, zs, Res.bind, ofO, List.getElem?_cons_zero, List.getElem?_cons_succ, len_lst, List.length_map]) (by omega)
  unfold b__law_digits
  refine ex_nx (x_asg (.int c) S (by simp only [ev, evs, Res.bind, List.getElem?_cons_zero, List.getElem?_cons_succ, calV, hc, Rv.v]) rfl) ?_
  refine ex_nx (x_asg (.ref S.length) (S ++ [.lst []]) (by simp only [ev, evf, evs, Res.bind, List.length_nil, sizeLine, Nat.zero_le, if_true]) rfl) ?_
  refine ex_nx (x_ite0 (S ++ [.lst []]) (by simp only [ev, Res.bind, List.getElem?_cons_zero, List.getElem?_cons_succ, List.set_cons_zero, List.set_cons_succ, hp, ofO, cmpop, h1]) ex_nil) ?_
  refine ex_nx (x_asg (.int (c % 2147483647)) (S ++ [.lst []]) (by simp only [ev, Res.bind, List.getElem?_cons_zero, List.getElem?_cons_succ, List.set_cons_zero, List.set_cons_succ, ofO, b_mod (j := 2147483647) (by omega)]) rfl) ?_
  refine ex_nx (x_for [] _ _ es e1) ?_
  exact ex_ret (x_ret _ _ (by simp only [ev, List.getElem?_cons_zero, List.getElem?_cons_succ, Nat.add_zero]))
theorem r_digits (n : Nat) (ns : List Int) {k : Nat} {sizes : List Int} (hz : ∀ s ∈ sizes, 0 < s ∧ s < 1073741824) (hl : sizes.length ≤ 1000) {S : Hs} (hS : NR S) : ∃ ds : List Int, Digs sizes ds ∧ (Mn (n + 2)).cal "_law_digits" [zs ns, .int k, zs sizes] S = .ok (.frs (.lst (ds.map .int))) S := by
  obtain ⟨c, hc⟩ := r_cell n ns (k := k) hS
  obtain ⟨p, hp⟩ : ∃ p : Int, binop .Pow (.int 10) (.int 18) = some (.int p) := ⟨_, b_pow (i := 10) (j := 18) (by decide) (by decide) (by decide)⟩
  by_cases hb : p ≤ c
  · exact digits_big n ns hz hl hS hc hp hb
  · exact digits_small n ns hz hl hS hc hp hb
end K03
set_option Elab.async false
set_option linter.all false
set_option maxRecDepth 100000
set_option maxHeartbeats 4000000
namespace K03
open PySem L2 Oz

/-! ### texts -/
def al (z : Str) : Prop := ∀ c ∈ z.cps.toList, c ∈ abc.cps.toList
theorem tl_app (x y : Str) : (x ++ y).cps.toList = x.cps.toList ++ y.cps.toList := by
  show (x.cps ++ y.cps).toList = _
  simp
theorem len_tl (x : Str) : x.length = x.cps.toList.length := rfl
theorem len_app (x y : Str) : (x ++ y).length = x.length + y.length := by rw [len_tl, tl_app, List.length_append]; rfl
theorem al_app {x y : Str} (h : al x) (k : al y) : al (x ++ y) := fun c hc => by
  rw [tl_app] at hc
  exact (List.mem_append.mp hc).elim (h c) (k c)
theorem al_one {c : Nat} (h : c ∈ abc.cps.toList) : al ⟨#[c]⟩ := fun d hd => by
  simp at hd
  rw [hd]; exact h
theorem joinL_one : ∀ gs : List Nat, TL.joinL [] (gs.map fun c => [c]) = gs
  | [] => rfl
  | [c] => rfl
  | c :: d :: r => by
    have := joinL_one (d :: r)
    simp only [List.map_cons, TL.joinL, List.nil_append] at this ⊢
    rw [this]; rfl
theorem join_tl (gs : List Nat) : (Txt.join (Str.ofString "") (gs.map fun c => (⟨#[c]⟩ : Str))).cps.toList = gs := by
  rw [TL.join_eq]
  have := TL.tl_join (Str.ofString "") (gs.map fun c => (⟨#[c]⟩ : Str))
  have e : TL.tl (Str.ofString "") = [] := by decide
  rw [e, List.map_map] at this
  exact this.trans (joinL_one gs)
theorem abc_len : abc.cps.toList.length = 26 := by decide
theorem letter (m : Int) : ∃ c ∈ abc.cps.toList, abc.cps.toList[(m % 26).toNat]? = some c := by
  have h0 := Int.emod_nonneg m (show (26 : Int) ≠ 0 by omega)
  have h1 := Int.emod_lt_of_pos m (show (0 : Int) < 26 by omega)
  have : (m % 26).toNat < abc.cps.toList.length := by rw [abc_len]; omega
  exact ⟨_, List.getElem_mem this, List.getElem?_eq_getElem this⟩
theorem ix_abc {S : Hs} {m : Int} {c : Nat} (h : abc.cps.toList[(m % 26).toNat]? = some c) : idxop S (.str abc) (.int (m % 26)) = some (.str ⟨#[c]⟩) := by
  have h0 := Int.emod_nonneg m (show (26 : Int) ≠ 0 by omega)
  have := ix_str (S := S) (z := abc) (i := (m % 26).toNat) (by rw [len_tl, abc_len]; omega) h
  rwa [Int.toNat_of_nonneg h0] at this
theorem filt {f : Vl → Option Vl} : ∀ (xs : List Vl), (∀ x ∈ xs, ∃ c ∈ abc.cps.toList, f x = some (.str ⟨#[c]⟩)) → ∃ gs : List Nat, xs.filterMap f = gs.map (fun c => Vl.str ⟨#[c]⟩) ∧ gs.length = xs.length ∧ ∀ c ∈ gs, c ∈ abc.cps.toList
  | [], _ => ⟨[], rfl, rfl, fun c h => by simp at h⟩
  | x :: xs, h => by
    obtain ⟨c, hc, e⟩ := h x (List.mem_cons_self ..)
    obtain ⟨gs, e1, e2, e3⟩ := filt xs fun y hy => h y (List.mem_cons_of_mem _ hy)
    refine ⟨c :: gs, by simp [e, e1], by simp [e2], fun d hd => ?_⟩
    rcases List.mem_cons.mp hd with rfl | hd
    · exact hc
    · exact e3 d hd
theorem allS_ones (gs : List Nat) : allS (gs.map fun c => Vl.str ⟨#[c]⟩) = some (gs.map fun c => (⟨#[c]⟩ : Str)) := by
  induction gs with
  | nil => rfl
  | cons c gs ih => simp only [List.map_cons, allS, ih, Option.map_some]
theorem allS_strs : ∀ zs : List Str, allS (zs.map Vl.str) = some zs
  | [] => rfl
  | z :: zs => by simp only [List.map_cons, allS, allS_strs zs, Option.map_some]
theorem sum_ones (gs : List Nat) : ((gs.map fun c => (⟨#[c]⟩ : Str)).map (·.length)).sum = gs.length := by
  induction gs with
  | nil => rfl
  | cons c gs ih =>
    simp only [List.map_cons, List.sum_cons, ih, List.length_cons]
    have : (⟨#[c]⟩ : Str).length = 1 := rfl
    omega
theorem join_ones {S : Hs} {gs : List Nat} (h : gs.length ≤ 1000) : tmop .join S (Str.ofString "") (.lst (gs.map fun c => Vl.str ⟨#[c]⟩)) = some (.str (Txt.join (Str.ofString "") (gs.map fun c => (⟨#[c]⟩ : Str)))) := by
  unfold tmop
  simp only [seqOf, Option.bind_some, allS_ones]
  have e : (Str.ofString "").length = 0 := by decide
  rw [if_pos (by rw [sum_ones, e]; omega)]
/-- the cut and the letter put in -/
theorem cut_lo {z : Str} {p : Nat} : (cutS z none (some (p : Int))).cps.toList = z.cps.toList.take p := by
  unfold cutS
  rw [HT.sIx_none, HT.sIx_nat]
  simp only [List.drop_zero, Nat.sub_zero]
  rw [len_tl, Nat.min_comm, ← List.take_take]
  simp only [List.take_of_length_le (show (z.cps.toList.take p).length ≤ z.cps.toList.length by rw [List.length_take]; exact Nat.min_le_right _ _)]
theorem cut_hi {z : Str} {p : Nat} : (cutS z (some (p : Int)) none).cps.toList = z.cps.toList.drop p := by
  unfold cutS
  rw [HT.sIx_none, HT.sIx_nat, len_tl]
  simp only
  by_cases h : p ≤ z.cps.toList.length
  · rw [Nat.min_eq_left h, List.take_of_length_le (by simp)]
  · rw [Nat.min_eq_right (by omega), List.drop_length, List.drop_of_length_le (by omega)]
    simp
theorem slt_lo {z : Str} {p : Nat} (h : z.length ≤ 1000) : sltop (.str z) none (some (p : Int)) = some (.str (cutS z none (some (p : Int)))) := if_pos (Nat.le_trans h (by decide))
theorem slt_hi {z : Str} {p : Nat} (h : z.length ≤ 1000) : sltop (.str z) (some (p : Int)) none = some (.str (cutS z (some (p : Int)) none)) := if_pos (Nat.le_trans h (by decide))
theorem mem_strs {S : Hs} {v : Vl} {fs : List Str} {z : Str} (h : seqOf S v = some (fs.map .str)) (hd : dctOf S v = none) (hv : ∀ y, v ≠ .str y) : memF S (.str z) v = some (decide (z ∈ fs)) := by
  have hf : (fs.map Vl.str).all Vl.flat = true := List.all_eq_true.mpr fun x hx => by
    obtain ⟨y, _, rfl⟩ := List.mem_map.mp hx
    rfl
  have ha : ((fs.map Vl.str).any fun y => eqF y (.str z)) = decide (z ∈ fs) := by
    rw [Bool.eq_iff_iff, List.any_eq_true, decide_eq_true_eq]
    constructor
    · rintro ⟨x, hx, e⟩
      obtain ⟨y, hy, rfl⟩ := List.mem_map.mp hx
      simp only [eqF, beq_iff_eq] at e
      rw [← e]; exact hy
    · intro hz
      exact ⟨.str z, List.mem_map_of_mem hz, by simp only [eqF, beq_self_eq_true]⟩
  unfold memF
  cases v with
  | str y => exact absurd rfl (hv y)
  | _ =>
    simp only [hd, h]
    rw [hf]
    simp only [Vl.flat, Bool.and_self, if_true, ha]
theorem mem_last {S : Hs} {fs : List Str} {z : Str} {T : Hs} : memF (S ++ [.lst (fs.map .str)] ++ T) (.str z) (.ref S.length) = some (decide (z ∈ fs)) := by
  have e : (S ++ [Ob.lst (fs.map .str)] ++ T)[S.length]? = some (.lst (fs.map .str)) := by rw [List.append_assoc, List.getElem?_append_right (Nat.le_refl _)]; simp
  exact mem_strs (by simp only [seqOf, e]) (by simp only [dctOf, e]) (fun y h => by cases h)
theorem nodup_map {α β : Type} {f : α → β} : ∀ {xs : List α}, (∀ a b, f a = f b → a = b) → xs.Nodup → (xs.map f).Nodup
  | [], _, _ => by simp
  | x :: xs, h, k => by
    rw [List.nodup_cons] at k
    rw [List.map_cons, List.nodup_cons]
    refine ⟨fun q => ?_, nodup_map h k.2⟩
    obtain ⟨y, hy, e⟩ := List.mem_map.mp q
    rw [h y x e] at hy
    exact k.1 hy
theorem digs4 {a b c d : Int} {ds : List Int} (h : Digs [a, b, c, d] ds) : ∃ w x y z, ds = [w, x, y, z] ∧ (0 ≤ w ∧ w < a) ∧ (0 ≤ x ∧ x < b) ∧ (0 ≤ y ∧ y < c) ∧ (0 ≤ z ∧ z < d) := by
  have hl := h.len
  match ds, hl with
  | [w, x, y, z], _ => exact ⟨w, x, y, z, rfl, h.at_ 0 _ _ rfl rfl, h.at_ 1 _ _ rfl rfl, h.at_ 2 _ _ rfl rfl, h.at_ 3 _ _ rfl rfl⟩
theorem digs2 {a b : Int} {ds : List Int} (h : Digs [a, b] ds) : ∃ w x, ds = [w, x] ∧ (0 ≤ w ∧ w < a) ∧ (0 ≤ x ∧ x < b) := by
  have hl := h.len
  match ds, hl with
  | [w, x], _ => exact ⟨w, x, rfl, h.at_ 0 _ _ rfl rfl, h.at_ 1 _ _ rfl rfl⟩
theorem digs5 {a b c d e : Int} {ds : List Int} (h : Digs [a, b, c, d, e] ds) : ∃ w x y z u, ds = [w, x, y, z, u] ∧ (0 ≤ w ∧ w < a) ∧ (0 ≤ x ∧ x < b) ∧ (0 ≤ y ∧ y < c) ∧ (0 ≤ z ∧ z < d) ∧ (0 ≤ u ∧ u < e) := by
  have hl := h.len
  match ds, hl with
  | [w, x, y, z, u], _ => exact ⟨w, x, y, z, u, rfl, h.at_ 0 _ _ rfl rfl, h.at_ 1 _ _ rfl rfl, h.at_ 2 _ _ rfl rfl, h.at_ 3 _ _ rfl rfl, h.at_ 4 _ _ rfl rfl⟩
end K03
set_option Elab.async false
set_option linter.all false
set_option maxRecDepth 100000
set_option maxHeartbeats 4000000
namespace K03
open PySem L2 Oz

/-- the text that is made of digits -/
def lf (j one two : Int) : Vl → Option Vl
  | .int i => (abc.cps.toList[((one + i * two + 3 * j) % 26).toNat]?).map fun c => .str ⟨#[c]⟩
  | _ => none
theorem lf_mem (j one two : Int) {sz : Nat} : ∀ x ∈ rngL 0 sz, ∃ i : Nat, i < sz ∧ x = .int i := fun x hx => by
  obtain ⟨i, hi⟩ := List.getElem?_of_mem hx
  exact ⟨i, rng_at hi⟩
theorem lf_at (j one two : Int) (i : Nat) : ∃ c ∈ abc.cps.toList, abc.cps.toList[((one + (i : Int) * two + 3 * j) % 26).toNat]? = some c ∧ lf j one two (.int i) = some (.str ⟨#[c]⟩) := by
  obtain ⟨c, hc, e⟩ := letter (one + (i : Int) * two + 3 * j)
  have h : lf j one two (.int i) = (abc.cps.toList[((one + (i : Int) * two + 3 * j) % 26).toNat]?).map fun c => .str ⟨#[c]⟩ := rfl
  exact ⟨c, hc, e, h.trans (congrArg (Option.map fun c => Vl.str ⟨#[c]⟩) e)⟩
theorem lf_step (n : Nat) {a0 a1 a2 a3 a9 a10 a11 a12 a13 a14 a15 a16 : Option Vl} (j one two : Int) (sz : Nat) (h1 : 0 ≤ two) (h2 : two < 26) (S : Hs) (i c : Nat) (e : abc.cps.toList[((one + (i : Int) * two + 3 * j) % 26).toNat]? = some c) :
    ev (Mn n) (.idx (.var 4) (.bin .Mod (.bin .Add (.bin .Add (.var 6) (.bin .Mult (.var 11) (.var 7))) (.bin .Mult (.cst (.int 3)) (.var 5))) (.cst (.int 26)))) [a0, a1, a2, a3, some (.str abc), some (.int j), some (.int one), some (.int two), some (.int sz), a9, a10, some (.int i), a12, a13, a14, a15, a16] S = .ok (.str ⟨#[c]⟩) S := by
  exact v_idx (v_var rfl) (v_bin (v_bin (v_bin (v_var rfl) (v_bin (v_var rfl) (v_var rfl) (b_mulR (by omega) (by omega))) (b_add _ _)) (v_bin v_cst (v_var rfl) (b_mulL (by omega) (by omega))) (b_add _ _)) v_cst (b_mod (by omega))) (ix_abc e)
theorem e_letters (n : Nat) {a0 a1 a2 a3 a9 a10 a11 a12 a13 a14 a15 a16 : Option Vl} (j one two : Int) (sz : Nat) (h1 : 0 ≤ two) (h2 : two < 26) (hs : sz ≤ 5) (S : Hs) : ∃ gs : List Nat, gs.length = sz ∧ (∀ c ∈ gs, c ∈ abc.cps.toList) ∧
    evf (Mn n) q1__law_names [a0, a1, a2, a3, some (.str abc), some (.int j), some (.int one), some (.int two), some (.int sz), a9, a10, a11, a12, a13, a14, a15, a16] S = .ok (.lst (gs.map fun c => Vl.str ⟨#[c]⟩)) S := by
  have es : evS (Mn n) (.rng1 (.var 8)) [a0, a1, a2, a3, some (.str abc), some (.int j), some (.int one), some (.int two), some (.int sz), a9, a10, a11, a12, a13, a14, a15, a16] S = .ok ([], rngL 0 sz) S := ev_rng1 (by simp only [ev, List.getElem?_cons_zero, List.getElem?_cons_succ]) (by omega)
  obtain ⟨gs, e1, e2, e3⟩ := filt (f := lf j one two) (rngL 0 sz) fun x hx => by
    obtain ⟨i, _, rfl⟩ := lf_mem j one two x hx
    obtain ⟨c, hc, _, e⟩ := lf_at j one two i
    exact ⟨c, hc, e⟩
  refine ⟨gs, by rw [e2, rngL_len], e3, ?_⟩
  rw [← e1]
  refine ev_comp (M := Mn n) (own := [11]) (t := .nm 11) [] (rngL 0 sz) (lf j one two) es (lock_nil S) (by rw [rngL_len]; omega) (fun x hx y hy => ?_) (fun x hx acc ha => ?_)
  · obtain ⟨i, _, rfl⟩ := lf_mem j one two x hx
    obtain ⟨c, hc, _, e⟩ := lf_at j one two i
    rw [e] at hy
    cases hy
    simp only [Vl.nr]
  · obtain ⟨i, _, rfl⟩ := lf_mem j one two x hx
    obtain ⟨c, hc, e, e5⟩ := lf_at j one two i
    exact ⟨_, _, rfl, lf_step n (a11 := none) j one two sz h1 h2 _ i c e, e5⟩
def tails : List Nat := (Str.ofString "ijklmnopqrst").cps.toList
def tries (c : Nat) : List Str := tails.map fun t => Str.ofString "z" ++ ⟨#[c]⟩ ++ ⟨#[t]⟩
theorem tries_nodup (c : Nat) : (tries c).Nodup := nodup_map (fun a b h => by
  have := congrArg (fun z : Str => z.cps.toList) h
  simp only [tl_app] at this
  have := List.append_cancel_left this
  simpa using this) (by decide)
theorem tries_len (c : Nat) : (tries c).length = 12 := by
  unfold tries
  rw [List.length_map]; decide
theorem tries_word {c : Nat} (hc : c ∈ abc.cps.toList) : ∀ z ∈ tries c, Word z := fun z hz => by
  obtain ⟨t, ht, rfl⟩ := List.mem_map.mp hz
  have hl : (Str.ofString "z" ++ ⟨#[c]⟩ ++ ⟨#[t]⟩ : Str).length = 3 := by
    rw [len_app, len_app]
    have e1 : (Str.ofString "z").length = 1 := by decide
    have e2 : (⟨#[c]⟩ : Str).length = 1 := rfl
    have e3 : (⟨#[t]⟩ : Str).length = 1 := rfl
    omega
  have hz : al (Str.ofString "z") := by unfold al; decide
  have ht2 : ∀ t ∈ tails, t ∈ abc.cps.toList := by decide
  exact ⟨by omega, by omega, al_app (al_app hz (al_one hc)) (al_one (ht2 t ht))⟩
theorem e_tries (n : Nat) {a0 a1 a2 a3 a6 a7 a8 a9 a10 a11 a12 a13 a14 a15 a16 : Option Vl} {j : Nat} {c : Nat} (hc : abc.cps.toList[j]? = some c) (S : Hs) :
    evf (Mn n) q2__law_names [a0, a1, a2, a3, some (.str abc), some (.int j), a6, a7, a8, a9, a10, a11, a12, a13, a14, a15, a16] S = .ok (.lst ((tries c).map .str)) S := by
  have hx0 : ∀ S : Hs, idxop S (.str abc) (.int j) = some (.str ⟨#[c]⟩) := fun S => ix_str (by rw [len_tl, abc_len]; omega) hc
  refine (ev_comp (M := Mn n) (own := [15]) (t := .nm 15) [] (charsL (Str.ofString "ijklmnopqrst")) (fun x => match x with | .str t => some (.str (Str.ofString "z" ++ ⟨#[c]⟩ ++ t)) | _ => none) (ev_chars (by simp only [ev])) (lock_nil S) (by rw [charsL_len]; decide) (fun x hx y hy => by
      obtain ⟨d, hd, rfl⟩ := charsL_mem hx
      cases hy
      simp only [Vl.nr]) (fun x hx acc ha => by
      obtain ⟨d, hd, rfl⟩ := charsL_mem hx
      have z1 : (Str.ofString "z").length = 1 := by decide
      have z2 : (⟨#[c]⟩ : Str).length = 1 := rfl
      have z3 : (⟨#[d]⟩ : Str).length = 1 := rfl
      have q1 : (Str.ofString "z").length + (⟨#[c]⟩ : Str).length ≤ sizeLine := small_sz (by omega)
      have q2 : (Str.ofString "z" ++ ⟨#[c]⟩ : Str).length + (⟨#[d]⟩ : Str).length ≤ sizeLine := small_sz (by rw [len_app]; omega)
      exact ⟨_, _, rfl, v_bin (v_bin v_cst (v_idx (v_var rfl) (v_var rfl) (hx0 _)) (b_adds q1)) (v_var rfl) (b_adds q2), rfl⟩)).trans ?_
  congr 2
theorem e_free (n : Nat) {a0 a1 a2 a4 a5 a6 a7 a8 a9 a10 a11 a12 a13 a15 a16 : Option Vl} {ts fs : List Str} (hl : ts.length ≤ 1000) (S : Hs) :
    evf (Mn n) q3__law_names [a0, a1, a2, some (.ref S.length), a4, a5, a6, a7, a8, a9, a10, a11, a12, a13, some (.lst (ts.map .str)), a15, a16] (S ++ [.lst (fs.map .str)]) = .ok (.lst ((ts.filter fun z => decide (z ∉ fs)).map .str)) (S ++ [.lst (fs.map .str)]) := by
  refine (ev_compI (M := Mn n) (own := [16]) (t := .nm 16) [] (ts.map .str) (fun x => match x with | .str t => if t ∈ fs then none else some (.str t) | _ => none) (ev_sq (v := .lst (ts.map .str)) (S1 := S ++ [.lst (fs.map .str)]) (by simp only [ev, List.getElem?_cons_succ, List.getElem?_cons_zero]) rfl) (lock_nil _) (by rw [List.length_map]; omega) (fun x hx y hy => by
      obtain ⟨d, hd, rfl⟩ := List.mem_map.mp hx
      simp only at hy
      split at hy
      · cases hy
      · cases hy; simp only [Vl.nr]) (fun x hx acc ha => by
      obtain ⟨d, hd, rfl⟩ := List.mem_map.mp hx
      refine ⟨_, rfl, ?_⟩
      by_cases hm : d ∈ fs
      · exact .inl ⟨v_cmp (d := false) (v_var rfl) (v_var rfl) (by simp only [cmpop, mem_last, Option.map_some, decide_eq_true hm, Bool.not_true]), by simp only [if_pos hm]⟩
      · exact .inr ⟨v_cmp (d := true) (v_var rfl) (v_var rfl) (by simp only [cmpop, mem_last, Option.map_some, decide_eq_false hm, Bool.not_false]), .str d, v_var rfl, by simp only [if_neg hm]⟩)).trans ?_
  congr 2
  clear hl
  induction ts with
  | nil => rfl
  | cons t ts ih =>
    by_cases hm : t ∈ fs
    · rw [List.map_cons, List.filterMap_cons, List.filter_cons]
      simp only [if_pos hm, ih]
      simp [hm]
    · rw [List.map_cons, List.filterMap_cons, List.filter_cons]
      simp only [if_neg hm, ih]
      simp [hm]
end K03
set_option linter.all false
set_option autoImplicit false
/-! what is met, in order: plain -/
namespace K03

def push1 (f : List Int) (t : Int) : List Int := if 0 < t ∧ t ∉ f then f ++ [t] else f
def push (f : List Int) (ts : List Int) : List Int := ts.foldl push1 f
def bfs (nx : Int → List Int) : Nat → Nat → List Int → List Int
  | 0, _, f => f
  | n + 1, k, f => match f[k]? with
    | some x => bfs nx n (k + 1) (push f (nx x))
    | none => f
def rngI (n : Nat) : List Int := (List.range n).map fun (i : Nat) => (i : Int) + 1
theorem push_nil (f : List Int) : push f [] = f := rfl
theorem push_cons (f : List Int) (t : Int) (ts : List Int) : push f (t :: ts) = push (push1 f t) ts := rfl
theorem push1_mem {f : List Int} {t x : Int} : x ∈ push1 f t ↔ x ∈ f ∨ (x = t ∧ 0 < x) := by
  unfold push1
  split
  · rename_i h
    rw [List.mem_append, List.mem_singleton]
    constructor
    · rintro (h1 | h1)
      · exact .inl h1
      · subst h1; exact .inr ⟨rfl, h.1⟩
    · rintro (h1 | ⟨h1, _⟩)
      · exact .inl h1
      · exact .inr h1
  · rename_i h
    constructor
    · exact .inl
    · rintro (h1 | ⟨h1, h2⟩)
      · exact h1
      · subst h1
        by_cases c : x ∈ f
        · exact c
        · exact absurd ⟨h2, c⟩ h
theorem push_mem {x : Int} : ∀ {ts f : List Int}, x ∈ push f ts ↔ x ∈ f ∨ (x ∈ ts ∧ 0 < x)
  | [], f => by simp [push_nil]
  | t :: ts, f => by
    rw [push_cons, push_mem, push1_mem, List.mem_cons]
    constructor
    · rintro ((h | ⟨h, h2⟩) | ⟨h, h2⟩)
      · exact .inl h
      · exact .inr ⟨.inl h, h2⟩
      · exact .inr ⟨.inr h, h2⟩
    · rintro (h | ⟨h | h, h2⟩)
      · exact .inl (.inl h)
      · exact .inl (.inr ⟨h, h2⟩)
      · exact .inr ⟨h, h2⟩
theorem push1_nodup {f : List Int} {t : Int} (h : f.Nodup) : (push1 f t).Nodup := by
  unfold push1
  split
  · rename_i c
    rw [List.nodup_append]
    exact ⟨h, by simp, fun x hx y hy => by
      rw [List.mem_singleton.mp hy]
      exact fun e => c.2 (e ▸ hx)⟩
  · exact h
theorem push_nodup : ∀ {ts f : List Int}, f.Nodup → (push f ts).Nodup
  | [], f, h => h
  | t :: ts, f, h => by
    rw [push_cons]
    exact push_nodup (push1_nodup h)
theorem push1_pre {f : List Int} {t : Int} : f <+: push1 f t := by
  unfold push1
  split
  · exact List.prefix_append _ _
  · exact List.prefix_refl _
theorem push_pre : ∀ {ts f : List Int}, f <+: push f ts
  | [], f => List.prefix_refl _
  | t :: ts, f => push1_pre.trans push_pre
section
variable {nx : Int → List Int}
theorem bfs_pre : ∀ {m k : Nat} {f : List Int}, f <+: bfs nx m k f
  | 0, k, f => List.prefix_refl _
  | m + 1, k, f => by
    unfold bfs
    split
    · exact push_pre.trans bfs_pre
    · exact List.prefix_refl _
theorem bfs_nodup : ∀ {m k : Nat} {f : List Int}, f.Nodup → (bfs nx m k f).Nodup
  | 0, k, f, h => h
  | m + 1, k, f, h => by
    unfold bfs
    split
    · exact bfs_nodup (push_nodup h)
    · exact h
theorem bfs_all {P : Int → Prop} (hc : ∀ x, P x → ∀ t ∈ nx x, 0 < t → P t) : ∀ {m k : Nat} {f : List Int}, (∀ x ∈ f, P x) → ∀ x ∈ bfs nx m k f, P x
  | 0, k, f, h, x, hx => h x hx
  | m + 1, k, f, h, x, hx => by
    unfold bfs at hx
    split at hx
    · rename_i y e
      refine bfs_all hc (fun z hz => ?_) x hx
      rcases push_mem.mp hz with c | ⟨c, d⟩
      · exact h z c
      · exact hc y (h y (List.mem_of_getElem? e)) z c d
    · exact h x hx
theorem pre_get {α : Type} {xs ys : List α} {i : Nat} {x : α} (h : xs <+: ys) (e : xs[i]? = some x) : ys[i]? = some x := by
  obtain ⟨t, rfl⟩ := h
  rw [List.getElem?_append_left (List.getElem?_eq_some_iff.mp e).1]; exact e
theorem bfs_closed : ∀ {m k : Nat} {f : List Int}, (bfs nx m k f).length ≤ k + m → ∀ (i : Nat) (x : Int), k ≤ i → (bfs nx m k f)[i]? = some x → ∀ t ∈ nx x, 0 < t → t ∈ bfs nx m k f
  | 0, k, f, hl, i, x, hi, e, t, ht, h0 => by
    have := (List.getElem?_eq_some_iff.mp e).1
    unfold bfs at hl this
    omega
  | m + 1, k, f, hl, i, x, hi, e, t, ht, h0 => by
    unfold bfs at hl e ⊢
    split at e
    · rename_i y ey
      rw [ey] at hl
      simp only at hl ⊢
      by_cases c : i = k
      · subst c
        have e2 := pre_get (push_pre.trans bfs_pre) ey (ys := bfs nx m (i + 1) (push f (nx y)))
        rw [e2] at e
        cases e
        exact (bfs_pre.subset) (push_mem.mpr (.inr ⟨ht, h0⟩))
      · exact bfs_closed (by omega) i x (by omega) e t ht h0
    · rename_i en
      have := (List.getElem?_eq_some_iff.mp e).1
      have := List.getElem?_eq_none_iff.mp en
      omega
theorem bfs_short : ∀ {m k d : Nat} {f : List Int}, (bfs nx (m + d) k f).length ≤ k + m → bfs nx m k f = bfs nx (m + d) k f
  | 0, k, d, f, h => by
    have p : f <+: bfs nx (0 + d) k f := bfs_pre
    have hl := p.length_le
    have en : f[k]? = none := List.getElem?_eq_none (by omega)
    cases d with
    | zero => rfl
    | succ d =>
      show f = bfs nx (0 + (d + 1)) k f
      rw [show 0 + (d + 1) = (0 + d) + 1 by omega]
      unfold bfs
      rw [en]
  | m + 1, k, d, f, h => by
    rw [show m + 1 + d = (m + d) + 1 by omega] at h ⊢
    unfold bfs at h ⊢
    split at h
    · rename_i y ey
      exact bfs_short (by omega)
    · rfl
/-! ### numbers turned -/
structure Ren (P : Int → Prop) (g : Int → Int) : Prop where
  inj : ∀ a b, P a → P b → g a = g b → a = b
  pos : ∀ a, P a → 0 < g a
  neg : ∀ a, a ≤ 0 → g a ≤ 0
theorem map_mem {P : Int → Prop} {g : Int → Int} (r : Ren P g) {f : List Int} (hf : ∀ x ∈ f, P x) {t : Int} (ht : P t) : g t ∈ f.map g ↔ t ∈ f := by
  constructor
  · intro h
    obtain ⟨y, hy, e⟩ := List.mem_map.mp h
    rw [← r.inj y t (hf y hy) ht e]; exact hy
  · exact fun h => List.mem_map.mpr ⟨t, h, rfl⟩
theorem push1_map {P : Int → Prop} {g : Int → Int} (r : Ren P g) {f : List Int} (hf : ∀ x ∈ f, P x) {t : Int} (ht : 0 < t → P t) : push1 (f.map g) (g t) = (push1 f t).map g := by
  unfold push1
  by_cases c : 0 < t
  · have pt := ht c
    have c2 := r.pos t pt
    by_cases d : t ∈ f
    · rw [if_neg (fun z => z.2 ((map_mem r hf pt).mpr d)), if_neg (fun z => z.2 d)]
    · rw [if_pos ⟨c2, fun z => d ((map_mem r hf pt).mp z)⟩, if_pos ⟨c, d⟩, List.map_append, List.map_cons, List.map_nil]
  · have c2 := r.neg t (by omega)
    rw [if_neg (by omega), if_neg (by omega)]
theorem push_map {P : Int → Prop} {g : Int → Int} (r : Ren P g) : ∀ {ts f : List Int}, (∀ x ∈ f, P x) → (∀ t ∈ ts, 0 < t → P t) → push (f.map g) (ts.map g) = (push f ts).map g
  | [], f, _, _ => rfl
  | t :: ts, f, hf, ht => by
    rw [List.map_cons, push_cons, push_cons, push1_map r hf (ht t List.mem_cons_self)]
    refine push_map r (fun x hx => ?_) fun y hy => ht y (List.mem_cons_of_mem _ hy)
    rcases push1_mem.mp hx with c | ⟨c, d⟩
    · exact hf x c
    · subst c; exact ht x List.mem_cons_self d
theorem bfs_map {P : Int → Prop} {g : Int → Int} {nx' : Int → List Int} (r : Ren P g) (hc : ∀ x, P x → ∀ t ∈ nx x, 0 < t → P t) (hn : ∀ x, P x → nx' (g x) = (nx x).map g) : ∀ {m k : Nat} {f : List Int}, (∀ x ∈ f, P x) → bfs nx' m k (f.map g) = (bfs nx m k f).map g
  | 0, k, f, _ => rfl
  | m + 1, k, f, hf => by
    unfold bfs
    rw [List.getElem?_map]
    cases e : f[k]? with
    | none => rfl
    | some x =>
      have px := hf x (List.mem_of_getElem? e)
      simp only [Option.map_some]
      rw [hn x px, push_map r hf (hc x px)]
      refine bfs_map r hc hn fun y hy => ?_
      rcases push_mem.mp hy with c | ⟨c, d⟩
      · exact hf y c
      · exact hc x px y c d
end
/-! ### places -/
theorem rngI_len (n : Nat) : (rngI n).length = n := by simp [rngI]
theorem rngI_at {n i : Nat} (h : i < n) : (rngI n)[i]? = some ((i : Int) + 1) := by
  unfold rngI
  rw [List.getElem?_map, List.getElem?_range h]; rfl
theorem rngI_mem {n : Nat} {x : Int} : x ∈ rngI n ↔ 1 ≤ x ∧ x ≤ n := by
  unfold rngI
  rw [List.mem_map]
  constructor
  · rintro ⟨i, hi, rfl⟩
    have := List.mem_range.mp hi
    omega
  · rintro ⟨h1, h2⟩
    exact ⟨(x - 1).toNat, List.mem_range.mpr (by omega), by omega⟩
theorem rngI_nodup (n : Nat) : (rngI n).Nodup := by
  unfold rngI
  refine List.Pairwise.map _ (fun a b h e => h (by omega)) List.nodup_range
theorem nodup_len {α : Type} [DecidableEq α] : ∀ {xs ys : List α}, xs.Nodup → (∀ x ∈ xs, x ∈ ys) → xs.length ≤ ys.length
  | [], ys, _, _ => Nat.zero_le _
  | x :: xs, ys, h, k => by
    obtain ⟨h1, h2⟩ := List.nodup_cons.mp h
    have hx := k x List.mem_cons_self
    have := nodup_len (ys := ys.erase x) h2 fun y hy => (List.mem_erase_of_ne (fun e : y = x => h1 (e ▸ hy))).mpr (k y (List.mem_cons_of_mem _ hy))
    rw [List.length_erase_of_mem hx] at this
    have : 0 < ys.length := List.length_pos_of_mem hx
    simp only [List.length_cons]; omega
theorem ord_len {n : Nat} {f : List Int} (h : f.Nodup) (k : ∀ x ∈ f, 1 ≤ x ∧ x ≤ n) : f.length ≤ n := by
  have := nodup_len h fun x hx => rngI_mem.mpr (k x hx)
  rwa [rngI_len] at this
/-- a point's new number -/
def anew (o : List Int) (t : Int) : Int := if 0 < t then (o.idxOf t : Int) + 1 else t
theorem anew_ren {o : List Int} (h : ∀ x ∈ o, 0 < x) : Ren (fun x => x ∈ o) (anew o) where
  inj := fun a b ha hb e => by
    unfold anew at e
    rw [if_pos (h a ha), if_pos (h b hb)] at e
    have la := List.idxOf_lt_length_of_mem ha
    have lb := List.idxOf_lt_length_of_mem hb
    have e2 : o.idxOf a = o.idxOf b := by omega
    have g1 := List.getElem_idxOf la
    have g2 := List.getElem_idxOf lb
    simp only [e2] at g1
    exact g1.symm.trans g2
  pos := fun a ha => by
    unfold anew
    rw [if_pos (h a ha)]; omega
  neg := fun a ha => by
    unfold anew
    rw [if_neg (by omega)]; exact ha
theorem idx_at {o : List Int} (nd : o.Nodup) {i : Nat} {x : Int} (e : o[i]? = some x) : o.idxOf x = i := by
  have hx := List.mem_of_getElem? e
  have l := List.idxOf_lt_length_of_mem hx
  have g := List.getElem_idxOf l
  have g2 : o[o.idxOf x]? = some x := by rw [List.getElem?_eq_getElem l, g]
  exact (List.getElem?_inj l nd).mp (g2.trans e.symm)
theorem anew_all {o : List Int} (nd : o.Nodup) (h : ∀ x ∈ o, 0 < x) : o.map (anew o) = rngI o.length := by
  apply List.ext_getElem?
  intro i
  rw [List.getElem?_map]
  by_cases c : i < o.length
  · rw [rngI_at c, List.getElem?_eq_getElem c]
    simp only [Option.map_some]
    congr 1
    unfold anew
    rw [if_pos (h _ (List.getElem_mem c)), idx_at nd (List.getElem?_eq_getElem c)]
  · rw [List.getElem?_eq_none (by omega), List.getElem?_eq_none (by rw [rngI_len]; omega)]; rfl
end K03
set_option Elab.async false
set_option linter.all false
set_option maxRecDepth 100000
set_option maxHeartbeats 4000000
namespace K03
open PySem L2 Oz

theorem nat_of {x : Int} (h : 0 ≤ x) : ∃ n : Nat, x = n := ⟨x.toNat, by omega⟩
theorem word_of {gs : List Nat} {c p : Nat} {R : Str} (hR : R.cps.toList = gs) (hg : ∀ d ∈ gs, d ∈ abc.cps.toList) (hc : c ∈ abc.cps.toList) (h5 : gs.length ≤ 5) : Word (cutS R none (some (p : Int)) ++ ⟨#[c]⟩ ++ cutS R (some (p : Int)) none) := by
  have l1 : (⟨#[c]⟩ : Str).length = 1 := rfl
  have l2 : (cutS R none (some (p : Int))).length + (cutS R (some (p : Int)) none).length = gs.length := by
    rw [len_tl, len_tl, cut_lo, cut_hi, hR, List.length_take, List.length_drop]; omega
  refine ⟨by rw [len_app, len_app]; omega, by rw [len_app, len_app]; omega, al_app (al_app (fun d hd => ?_) (al_one hc)) (fun d hd => ?_)⟩
  · rw [cut_lo, hR] at hd; exact hg d (List.mem_of_mem_take hd)
  · rw [cut_hi, hR] at hd; exact hg d (List.mem_of_mem_drop hd)
def sh (s : Vl) (k many : Int) (r : Nat) (a5 a6 a7 a8 a9 a10 a12 a13 a14 : Option Vl) : Sg := [some s, some (.int k), some (.int many), some (.ref r), some (.str abc), a5, a6, a7, a8, a9, a10, none, a12, a13, a14, none, none]
theorem names_step (n : Nat) (ns : List Int) {k i : Nat} {many : Int} {fs : List Str} {S : Hs} (hS : NR S) (hl : fs.length = i) (h5 : i ≤ 5) (hn : fs.Nodup) (a6 a7 a8 a9 a10 a12 a13 a14 : Option Vl) :
    ∃ z b6 b7 b8 b9 b10 b12 b13 b14, Word z ∧ z ∉ fs ∧ exec (Mn (n + 2)) w4__law_names (sh (zs ns) k many S.length (some (.int i)) a6 a7 a8 a9 a10 a12 a13 a14) (S ++ [.lst (fs.map .str)]) = .nx (sh (zs ns) k many S.length (some (.int i)) b6 b7 b8 b9 b10 b12 b13 b14) (S ++ [.lst ((fs ++ [z]).map .str)]) := by
  have hT : NR (S ++ [.lst (fs.map .str)]) := hS.one (nrs_map_str fs)
  obtain ⟨ds, hd, hc⟩ := r_digits n ns (k := k + i % 2) (sizes := [26, 26, 6, 5]) (by decide) (by decide) hT
  obtain ⟨one, two, size, place, rfl, ⟨o0, o1⟩, ⟨t0, t1⟩, ⟨s0, s1⟩, ⟨p0, p1⟩⟩ := digs4 hd
  obtain ⟨sz, rfl⟩ := nat_of s0
  obtain ⟨pl, rfl⟩ := nat_of p0
  have hk : ((k + i % 2 : Nat) : Int) = (k : Int) + (i : Int) % 2 := by omega
  rw [hk] at hc
  obtain ⟨gs, g1, g2, g3⟩ := e_letters (n + 2) (a0 := some (zs ns)) (a1 := some (.int k)) (a2 := some (.int many)) (a3 := some (.ref S.length)) (a9 := some (.int pl)) (a10 := a10) (a11 := none) (a12 := a12) (a13 := a13) (a14 := a14) (a15 := none) (a16 := none) i one two sz t0 t1 (by omega) (S ++ [.lst (fs.map .str)])
  obtain ⟨c, c1, c2⟩ := letter (one + 7 * i + 11)
  obtain ⟨R, hJ, hR⟩ : ∃ R : Str, tmop .join (S ++ [.lst (fs.map .str)]) (Str.ofString "") (.lst (gs.map fun c => Vl.str ⟨#[c]⟩)) = some (.str R) ∧ R.cps.toList = gs := ⟨_, join_ones (by omega), join_tl gs⟩
  have hW := word_of (p := pl) hR g2 c1 (by omega)
  have hRl : R.length ≤ 1000 := by rw [len_tl, hR]; omega
  have tot := hW.hi
  have q1 : (cutS R none (some (pl : Int))).length + (⟨#[c]⟩ : Str).length ≤ sizeLine := small_sz (by
    rw [len_app, len_app] at tot; omega)
  have q2 : (cutS R none (some (pl : Int)) ++ ⟨#[c]⟩ : Str).length + (cutS R (some (pl : Int)) none).length ≤ sizeLine := small_sz (by
    rw [len_app] at tot; omega)
  obtain ⟨W, hWe⟩ : ∃ W, W = cutS R none (some (pl : Int)) ++ ⟨#[c]⟩ ++ cutS R (some (pl : Int)) none := ⟨_, rfl⟩
  rw [← hWe] at hW
  have hap : ∀ z : Str, mutop .append (fs.map Vl.str) [.str z] = some (.non, (fs ++ [z]).map Vl.str) := fun z => by
    rw [mut_app (by rw [List.length_map]; omega), List.map_append]; rfl
  have hlast : (S ++ [Ob.lst (fs.map .str)])[S.length]? = some (.lst (fs.map .str)) := List.getElem?_concat_length
  -- up to the test
  have head : ∀ r : Out, exec (Mn (n + 2)) (.cons (.ite (.cmp .In (.var 13) (.var 3)) (.cons (.asg (.nm 14) (.inl q2__law_names)) (.cons (.asg (.nm 13) (.idx (.inl q3__law_names) (.cst (.int 0)))) .nil)) .nil) (.cons (.ex (.mut .append (.var 3) (.cons (.var 13) .nil))) .nil)) (sh (zs ns) k many S.length (some (.int i)) (some (.int one)) (some (.int two)) (some (.int sz)) (some (.int pl)) (some (.str R)) (some (.str ⟨#[c]⟩)) (some (.str W)) a14) (S ++ [.lst (fs.map .str)]) = r →
      exec (Mn (n + 2)) w4__law_names (sh (zs ns) k many S.length (some (.int i)) a6 a7 a8 a9 a10 a12 a13 a14) (S ++ [.lst (fs.map .str)]) = r := fun r hr => by
    unfold w4__law_names
    refine ex_nx (x_asg (.lst [.int one, .int two, .int sz, .int pl]) _ (v_call (vs_cons (v_var rfl) (vs_cons (v_bin (v_var rfl) (v_bin (v_var rfl) v_cst (b_mod (by omega))) (b_add _ _)) (vs_cons (v_inl (f_lst (vs_cons v_cst (vs_cons v_cst (vs_cons v_cst (vs_cons v_cst vs_nil)))) (by decide))) vs_nil))) hc) rfl) ?_
    refine ex_nx (x_asg _ _ (v_join v_cst (v_inl g3) hJ) rfl) ?_
    refine ex_nx (x_asg _ _ (v_idx (v_var rfl) (v_bin (v_bin (v_bin (v_var rfl) (v_bin v_cst (v_var rfl) (b_mulL (by omega) (by omega))) (b_add _ _)) v_cst (b_add _ _)) v_cst (b_mod (by omega))) (ix_abc c2)) rfl) ?_
    refine ex_nx (x_asg (.str W) _ (by rw [hWe]; exact v_bin (v_bin (v_slt (v_var rfl) o_none (o_some (v_var rfl)) (slt_lo hRl)) (v_var rfl) (b_adds q1)) (v_slt (v_var rfl) (o_some (v_var rfl)) o_none (slt_hi hRl)) (b_adds q2)) rfl) ?_
    exact hr
  by_cases hm : W ∈ fs
  · have hi : i < abc.cps.toList.length := by rw [abc_len]; omega
    obtain ⟨d, hd1⟩ : ∃ d, abc.cps.toList[i]? = some d := ⟨_, List.getElem?_eq_getElem hi⟩
    have dm : d ∈ abc.cps.toList := List.mem_of_getElem? hd1
    have tl := tries_len d
    cases hf : (tries d).filter (fun z => decide (z ∉ fs)) with
    | nil =>
      have := nodup_len (tries_nodup d) (ys := fs) fun x hx => by
        have := List.filter_eq_nil_iff.mp hf x hx
        simpa using this
      omega
    | cons z rest =>
      have zm : z ∈ (tries d).filter (fun z => decide (z ∉ fs)) := by rw [hf]; exact List.mem_cons_self ..
      rw [List.mem_filter, decide_eq_true_eq] at zm
      have et := e_tries (n + 2) (a0 := some (zs ns)) (a1 := some (.int k)) (a2 := some (.int many)) (a3 := some (.ref S.length)) (a6 := some (.int one)) (a7 := some (.int two)) (a8 := some (.int sz)) (a9 := some (.int pl)) (a10 := some (.str R)) (a11 := none) (a12 := some (.str ⟨#[c]⟩)) (a13 := some (.str W)) (a14 := a14) (a15 := none) (a16 := none) hd1 (S ++ [.lst (fs.map .str)])
      have ef := e_free (n + 2) (a0 := some (zs ns)) (a1 := some (.int k)) (a2 := some (.int many)) (a4 := some (.str abc)) (a5 := some (.int i)) (a6 := some (.int one)) (a7 := some (.int two)) (a8 := some (.int sz)) (a9 := some (.int pl)) (a10 := some (.str R)) (a11 := none) (a12 := some (.str ⟨#[c]⟩)) (a13 := some (.str W)) (a15 := none) (a16 := none) (ts := tries d) (fs := fs) (by omega) S
      rw [hf] at ef
      refine ⟨z, some (.int one), some (.int two), some (.int sz), some (.int pl), some (.str R), some (.str ⟨#[c]⟩), some (.str z), some (.lst ((tries d).map .str)), tries_word dm z zm.1, zm.2, head _ ?_⟩
      refine ex_nx (x_ite1 _ (v_cmp (d := true) (v_var rfl) (v_var rfl) ?_) (ex_nx (x_asg _ _ (v_inl et) rfl) (ex_nx (x_asg (.str z) _ (v_idx (v_inl ef) v_cst (ix_lst (i := 0) rfl)) rfl) ex_nil))) ?_
      · have := mem_last (S := S) (fs := fs) (z := W) (T := [])
        rw [List.append_nil, decide_eq_true hm] at this
        exact this
      · refine ex_nx (x_ex _ _ (v_mut (v_var rfl) (lstAt_last _ _) (vs_cons (v_var rfl) vs_nil) hlast (hap z))) ?_
        rw [set_last]
        exact ex_nil
  · refine ⟨W, some (.int one), some (.int two), some (.int sz), some (.int pl), some (.str R), some (.str ⟨#[c]⟩), some (.str W), a14, hW, hm, head _ ?_⟩
    refine ex_nx (x_ite0 _ (v_cmp (d := false) (v_var rfl) (v_var rfl) ?_) ex_nil) ?_
    · have := mem_last (S := S) (fs := fs) (z := W) (T := [])
      rw [List.append_nil, decide_eq_false hm] at this
      exact this
    · refine ex_nx (x_ex _ _ (v_mut (v_var rfl) (lstAt_last _ _) (vs_cons (v_var rfl) vs_nil) hlast (hap W))) ?_
      rw [set_last]
      exact ex_nil
/-- names: words, all unlike -/
structure Names (fs : List Str) : Prop where
  w : ∀ z ∈ fs, Word z
  nd : fs.Nodup
theorem r_lnames (n : Nat) (ns : List Int) {k many : Nat} (h6 : many ≤ 6) {S : Hs} (hS : NR S) : ∃ fs : List Str, Names fs ∧ fs.length = many ∧ (Mn (n + 3)).cal "_law_names" [zs ns, .int k, .int many] S = .ok (.frs (.lst (fs.map .str))) S := by
  obtain ⟨η', S', e1, fs, a5, a6, a7, a8, a9, a10, a12, a13, a14, f1, f2, e2, e3⟩ := for_ok (body := fun η1 S2 => Oz.exec (Mn (n + 2)) w4__law_names η1 S2) (t := .nm 5) (lk := []) (xs := rngL 0 many) (η := sh (zs ns) k many S.length none none none none none none none none none) (S := S ++ [.lst []])
    (fun i η T => ∃ fs a5 a6 a7 a8 a9 a10 a12 a13 a14, fs.length = i ∧ Names fs ∧ T = S ++ [.lst (fs.map .str)] ∧ η = sh (zs ns) k many S.length a5 a6 a7 a8 a9 a10 a12 a13 a14)
    ⟨[], _, _, _, _, _, _, _, _, _, rfl, ⟨fun z h => by simp at h, List.nodup_nil⟩, rfl, rfl⟩ (fun _ _ _ _ => lock_nil _)
    (fun i x η T ex ⟨fs, a5, a6, a7, a8, a9, a10, a12, a13, a14, q1, q2, q3, q4⟩ => by
      subst q3 q4
      obtain ⟨il, rfl⟩ := rng_at ex
      obtain ⟨z, b6, b7, b8, b9, b10, b12, b13, b14, z1, z2, z3⟩ := names_step n ns (k := k) (i := i) (many := many) hS q1 (by omega) q2.nd a6 a7 a8 a9 a10 a12 a13 a14
      refine ⟨_, rfl, _, _, .inl z3, fs ++ [z], _, _, _, _, _, _, _, _, _, by simp [q1], ⟨fun y hy => ?_, ?_⟩, rfl, rfl⟩
      · rcases List.mem_append.mp hy with hy | hy
        · exact q2.w y hy
        · simp at hy; rw [hy]; exact z1
      · rw [List.nodup_append]
        refine ⟨q2.nd, by simp, fun y hy w hw => ?_⟩
        simp at hw
        rw [hw]
        intro e; subst e; exact z2 hy)
  subst e2 e3
  refine ⟨fs, f2, by rw [f1, rngL_len], ?_⟩
  rw [u__law_names]
  refine cal_ref (r := 0) (T := [.lst (fs.map .str)]) rfl ?_ hS rfl (nrs_map_str _)
  show exec (Mn (n + 2)) b__law_names [some (zs ns), some (.int k), some (.int many), none, none, none, none, none, none, none, none, none, none, none, none, none, none] S = _
  unfold b__law_names
  refine ex_nx (x_asg (.tup [.ref S.length, .str abc]) (S ++ [.lst []]) (v_tup (vs_cons (v_alc (f_lst vs_nil (by decide))) (vs_cons v_cst vs_nil)) (show 2 ≤ 1000000 by decide)) rfl) ?_
  refine ex_nx (x_for [] (rngL 0 many) _ (ev_rng1 (v_var rfl) (by omega)) e1) ?_
  exact ex_ret (x_ret _ _ (v_var rfl))
end K03
set_option Elab.async false
set_option linter.all false
set_option maxRecDepth 100000
set_option maxHeartbeats 4000000
namespace K03
open PySem L2 Oz

/-! ### heaps of two more things -/
section
variable {S : Hs} {a b a' b' : Ob}
theorem g0 : (S ++ [a, b])[S.length]? = some a := by simp
theorem g1 : (S ++ [a, b])[S.length + 1]? = some b := by simp
theorem s0 : (S ++ [a, b]).set S.length a' = S ++ [a', b] := by simp
theorem s1 : (S ++ [a, b]).set (S.length + 1) b' = S ++ [a, b'] := by simp
theorem nr2 (h : NR S) (ha : a.nr = true) (hb : b.nr = true) : NR (S ++ [a, b]) := by
  have := (h.one ha).one hb
  simpa using this
end
/-- a list or a tuple that holds xs -/
structure Sq (v : Vl) (xs : List Vl) : Prop where
  seq : ∀ S, seqOf S v = some xs
  walk : ∀ S, walkS S v = some ([], xs)
  dct : ∀ S, dctOf S v = none
  len : ∀ S, b1op .len S v = some (.int xs.length)
  ix : ∀ S (i : Nat) x, xs[i]? = some x → idxop S v (.int i) = some x
theorem sq_lst (xs : List Vl) : Sq (.lst xs) xs := ⟨fun _ => rfl, fun _ => rfl, fun _ => rfl, fun _ => rfl, fun _ _ _ h => ix_lst h⟩
theorem sq_tup (xs : List Vl) : Sq (.tup xs) xs := ⟨fun _ => rfl, fun _ => rfl, fun _ => rfl, fun _ => rfl, fun _ _ _ h => ix_tup h⟩
/-! ### names in order -/
def sortN (nm : Nms) : Nms := sortBy (·.1) nm
theorem allP_valN : ∀ nm : Nms, allP (valN nm) = some (nm.map fun p => (p.1, Vl.int p.2))
  | [] => rfl
  | p :: nm => by
    have ih := allP_valN nm
    unfold valN at ih ⊢
    simp only [List.map_cons, allP, ih, Option.map_some]
theorem srtp_valN {S : Hs} {v : Vl} {nm : Nms} (h : Sq v (valN nm)) (nd : (nm.map (·.1)).Nodup) (hl : nm.length < 64) : srtpop S v = some (valN (sortN nm)) := by
  unfold srtpop
  rw [h.seq S]
  simp only [Option.bind_some, allP_valN]
  rw [if_pos ⟨by rw [List.length_map]; exact hl, by rw [List.map_map]; exact nd⟩]
  congr 1
  rw [sortP_by, sortBy_map (fun p : Str × Int => p.1) (fun p => (p.1, Vl.int p.2)) (·.1) (fun _ => rfl), List.map_map]
  rfl
theorem sortN_perm (nm : Nms) : (sortN nm).Perm nm := sortBy_perm _ nm
theorem sortN_nd {nm : Nms} (nd : (nm.map (·.1)).Nodup) : ((sortN nm).map (·.1)).Nodup := ((sortN_perm nm).map (·.1)).nodup_iff.mpr nd
/-! ### what is met -/
def nxOf (it : Its) (x : Int) : List Int := match it[(x - 1).toNat]? with
  | some p => p.2
  | none => []
def wOf (it : Its) (x : Int) : Str := match it[(x - 1).toNat]? with
  | some p => p.1
  | none => Str.empty
def ord (nm : Nms) (it : Its) : List Int := bfs (nxOf it) it.length 0 (push [] ((sortN nm).map (·.2)))
structure Fit (nm : Nms) (it : Its) : Prop where
  nd : (nm.map (·.1)).Nodup
  n6 : nm.length ≤ 6
  i6 : it.length ≤ 6
  hi : ∀ p ∈ it, ∀ t ∈ p.2, -1 ≤ t ∧ t ≤ it.length
  ht : ∀ p ∈ nm, -1 ≤ p.2 ∧ p.2 ≤ it.length
  h2 : ∀ p ∈ it, p.2.length ≤ 2
abbrev InR (n : Nat) (x : Int) : Prop := 1 ≤ x ∧ x ≤ n
theorem nx_in {nm : Nms} {it : Its} (h : Fit nm it) (x : Int) : ∀ t ∈ nxOf it x, -1 ≤ t ∧ t ≤ it.length := fun t ht => by
  unfold nxOf at ht
  split at ht
  · rename_i p e
    exact h.hi p (List.mem_of_getElem? e) t ht
  · cases ht
theorem ord_in {nm : Nms} {it : Its} (h : Fit nm it) : ∀ x ∈ ord nm it, InR it.length x := by
  refine bfs_all (P := InR it.length) (fun x _ t ht h0 => ⟨by omega, (nx_in h x t ht).2⟩) fun x hx => ?_
  rcases push_mem.mp hx with c | ⟨c, d⟩
  · cases c
  · obtain ⟨p, hp, rfl⟩ := List.mem_map.mp c
    exact ⟨by omega, (h.ht p ((sortN_perm nm).mem_iff.mp hp)).2⟩
theorem ord_nd {nm : Nms} {it : Its} : (ord nm it).Nodup := bfs_nodup (push_nodup List.nodup_nil)
theorem ord_le {nm : Nms} {it : Its} (h : Fit nm it) : (ord nm it).length ≤ it.length := ord_len ord_nd (ord_in h)
theorem it_at {it : Its} {x : Int} (h : InR it.length x) : ∃ p, it[(x - 1).toNat]? = some p ∧ nxOf it x = p.2 ∧ wOf it x = p.1 := by
  obtain ⟨h1, h2⟩ := h
  have hl : (x - 1).toNat < it.length := by omega
  refine ⟨it[(x - 1).toNat], List.getElem?_eq_getElem hl, ?_, ?_⟩
  · unfold nxOf; rw [List.getElem?_eq_getElem hl]
  · unfold wOf; rw [List.getElem?_eq_getElem hl]
/-- the dict of what was seen -/
def Seen (f : List Int) (ks : List Key) (vs : List Vl) : Prop := nrs vs = true ∧ ks.length ≤ f.length + 2 ∧ ∀ t : Int, (ks.any fun j => decide (j = Sum.inl t)) = decide (t = 0 ∨ t = -1 ∨ t ∈ f)
abbrev St (S : Hs) (f : List Int) (ks : List Key) (vs : List Vl) : Hs := S ++ [.lst (f.map .int), .dct ks vs]
theorem any_not {ks : List Key} {t : Int} (h : (ks.any fun j => decide (j = Sum.inl t)) = false) : Sum.inl t ∉ ks := fun z => by
  rw [List.any_eq_false] at h
  exact h _ z (decide_eq_true rfl)
/-- one more target -/
theorem push_body {M : Mach} {η : Sg} {S : Hs} {f : List Int} {ks : List Key} {vs : List Vl} {t : Int} (h2 : η[2]? = some (some (.ref S.length))) (h3 : η[3]? = some (some (.ref (S.length + 1)))) (h5 : η[5]? = some (some (.int t))) (ht : -1 ≤ t) (hf : f.length ≤ 100) (h : Seen f ks vs) :
    ∃ ks' vs', Seen (push1 f t) ks' vs' ∧ exec M w1_met_from η (St S f ks vs) = .nx η (St S (push1 f t) ks' vs') := by
  obtain ⟨e1, e2, e3⟩ := h
  have mem : cmpop .NotIn (St S f ks vs) (.int t) (.ref (S.length + 1)) = some (!decide (t = 0 ∨ t = -1 ∨ t ∈ f)) := by
    show (memF _ _ _).map not = _
    rw [memF_dct (ks := ks) (vs := vs) (by simp only [dctOf, g1]), e3 t]; rfl
  by_cases c : 0 < t ∧ t ∉ f
  · have d : decide (t = 0 ∨ t = -1 ∨ t ∈ f) = false := decide_eq_false (by rintro (z | z | z); omega; omega; exact c.2 z)
    rw [d] at mem
    have hp : push1 f t = f ++ [t] := if_pos c
    have nk := any_not ((e3 t).trans d)
    refine ⟨ks ++ [Sum.inl t], vs ++ [.bl true], ⟨nrs_append e1 (by simp [nrs, Vl.nr]), by rw [hp]; simp; omega, fun u => ?_⟩, ?_⟩
    · rw [hp, List.any_append, e3 u]
      by_cases q : u = t
      · subst q; simp
      · have q2 : ¬ (Sum.inl t : Key) = Sum.inl u := fun z => q (Sum.inl.inj z).symm
        simp [q, q2]
    · refine ex_nx (x_ite1 _ (v_cmp (v_var h5) (v_var h3) mem) (ex_nx (x_iset v_cst (v_var h3) (v_var h5) (iset_dct (kk := Sum.inl t) g1 rfl (by omega))) (ex_nx (x_ex _ _ (v_mut (k := S.length) (ys := f.map .int) (v_var h2) ?_ (vs_cons (v_var h5) vs_nil) ?_ (mut_app (by rw [List.length_map]; omega)))) ex_nil))) ?_
      · rw [s1]; simp only [lstAt, g0]
      · rw [s1, g0]
      · rw [s1, s0, put_new_ nk, hp, ex_nil]
        show _ = Out.nx η (S ++ [Ob.lst ((f ++ [t]).map Vl.int), _])
        rw [List.map_append]; rfl
  · have d : decide (t = 0 ∨ t = -1 ∨ t ∈ f) = true := decide_eq_true (by
      by_cases q : t ∈ f
      · exact .inr (.inr q)
      · by_cases q2 : 0 < t
        · exact absurd ⟨q2, q⟩ c
        · omega)
    rw [d] at mem
    have hp : push1 f t = f := if_neg c
    rw [hp]
    exact ⟨ks, vs, ⟨e1, e2, e3⟩, ex_nx (x_ite0 _ (v_cmp (v_var h5) (v_var h3) mem) ex_nil) ex_nil⟩
theorem push_len {ts f : List Int} : (push f ts).length ≤ f.length + ts.length := by
  induction ts generalizing f with
  | nil => simp [push_nil]
  | cons t ts ih =>
    rw [push_cons]
    have := ih (f := push1 f t)
    have h : (push1 f t).length ≤ f.length + 1 := by
      unfold push1
      split <;> simp
    simp only [List.length_cons]; omega
theorem push_snoc {f ts : List Int} {t : Int} : push f (ts ++ [t]) = push1 (push f ts) t := by
  unfold push
  rw [List.foldl_append]; rfl
theorem r_met (n : Nat) {nm : Nms} {it : Its} (h : Fit nm it) {nv iv : Vl} (hn : Sq nv (valN nm)) (hiv : Sq iv (valI it)) {S : Hs} (hS : NR S) : (Mn (n + 1)).cal "met_from" [nv, iv] S = .ok (.frs (.lst ((ord nm it).map .int))) S := by
  rw [u_met_from]
  have nd := h.nd
  -- names
  have names : ∃ a4 a5 a6 a7 a8 ks vs, forL (fun η1 S2 => exec (Mn n) w1_met_from η1 S2) (.tp (.cons (.nm 4) (.cons (.nm 5) .nil))) [] (valN (sortN nm)) [some nv, some iv, some (.ref S.length), some (.ref (S.length + 1)), none, none, none, none, none] (St S [] [Sum.inl 0, Sum.inl (-1)] [.bl true, .bl true])
      = .nx [some nv, some iv, some (.ref S.length), some (.ref (S.length + 1)), a4, a5, a6, a7, a8] (St S (push [] ((sortN nm).map (·.2))) ks vs) ∧ Seen (push [] ((sortN nm).map (·.2))) ks vs := by
    obtain ⟨η', S', h1, a4, a5, a6, a7, a8, ks, vs, e1, e2, e3⟩ := for_ok (body := fun η1 S2 => exec (Mn n) w1_met_from η1 S2) (t := .tp (.cons (.nm 4) (.cons (.nm 5) .nil))) (lk := []) (xs := valN (sortN nm)) (η := [some nv, some iv, some (.ref S.length), some (.ref (S.length + 1)), none, none, none, none, none]) (S := St S [] [Sum.inl 0, Sum.inl (-1)] [.bl true, .bl true])
      (fun i η S' => ∃ a4 a5 a6 a7 a8 ks vs, η = [some nv, some iv, some (.ref S.length), some (.ref (S.length + 1)), a4, a5, a6, a7, a8] ∧ S' = St S (push [] (((sortN nm).map (·.2)).take i)) ks vs ∧ Seen (push [] (((sortN nm).map (·.2)).take i)) ks vs)
      ⟨none, none, none, none, none, _, _, rfl, rfl, by simp [nrs, Vl.nr], by simp [push_nil], fun t => by
        simp only [List.take_zero, push_nil, List.any_cons, List.any_nil, Bool.or_false, List.not_mem_nil, or_false]
        by_cases c : t = 0
        · subst c; simp
        · by_cases d : t = -1
          · subst d; simp
          · have c2 : ¬ (Sum.inl 0 : Key) = Sum.inl t := fun z => c (Sum.inl.inj z).symm
            have d2 : ¬ (Sum.inl (-1) : Key) = Sum.inl t := fun z => d (Sum.inl.inj z).symm
            simp [c, d, c2, d2]⟩ (fun i η S' _ => lock_nil _) fun i x η S' hx ⟨a4, a5, a6, a7, a8, ks, vs, e1, e2, e3⟩ => by
        subst e1 e2
        obtain ⟨p, hp, rfl⟩ := valN_at hx
        have hp2 : ((sortN nm).map (·.2))[i]? = some p.2 := by rw [List.getElem?_map, hp]; rfl
        have hr := h.ht p ((sortN_perm nm).mem_iff.mp (List.mem_of_getElem? hp))
        have hl : (push [] (((sortN nm).map (·.2)).take i)).length ≤ 100 := by
          have := push_len (f := []) (ts := ((sortN nm).map (·.2)).take i)
          have q := List.length_take_le i ((sortN nm).map (·.2))
          have q2 := (sortN_perm nm).length_eq
          have q3 := List.length_take_le' i ((sortN nm).map (·.2))
          rw [List.length_map] at q3
          have := h.n6
          simp only [List.length_nil] at *; omega
        obtain ⟨ks', vs', k1, k2⟩ := push_body (M := Mn n) (η := [some nv, some iv, some (.ref S.length), some (.ref (S.length + 1)), some (.str p.1), some (.int p.2), a6, a7, a8]) (S := S) rfl rfl rfl hr.1 hl e3
        refine ⟨_, rfl, _, _, .inl k2, _, _, a6, a7, a8, ks', vs', rfl, ?_, ?_⟩
        · rw [take_succ_at hp2, push_snoc]
        · rw [take_succ_at hp2, push_snoc]; exact k1
    rw [List.take_of_length_le (by rw [List.length_map, valN_len]; exact Nat.le_refl _)] at e2 e3
    subst e1 e2
    exact ⟨a4, a5, a6, a7, a8, ks, vs, h1, e3⟩
  -- one point's targets
  have inner : ∀ (a4 a5 a6 a7 : Option Vl) (p : Str × List Int) (f : List Int) (ks : List Key) (vs : List Vl), p ∈ it → f.length ≤ 90 → Seen f ks vs → ∃ b5 ks' vs', forL (fun η1 S2 => exec (Mn n) w2_met_from η1 S2) (.nm 5) [] (p.2.map .int) [some nv, some iv, some (.ref S.length), some (.ref (S.length + 1)), a4, a5, a6, a7, some (.tup (p.2.map .int))] (St S f ks vs)
      = .nx [some nv, some iv, some (.ref S.length), some (.ref (S.length + 1)), a4, b5, a6, a7, some (.tup (p.2.map .int))] (St S (push f p.2) ks' vs') ∧ Seen (push f p.2) ks' vs' := fun a4 a5 a6 a7 p f ks vs hp hf hs => by
    obtain ⟨η', S', h1, b5, ks', vs', e1, e2, e3⟩ := for_ok (body := fun η1 S2 => exec (Mn n) w2_met_from η1 S2) (t := .nm 5) (lk := []) (xs := p.2.map .int) (η := [some nv, some iv, some (.ref S.length), some (.ref (S.length + 1)), a4, a5, a6, a7, some (.tup (p.2.map .int))]) (S := St S f ks vs)
      (fun i η S' => ∃ b5 ks vs, η = [some nv, some iv, some (.ref S.length), some (.ref (S.length + 1)), a4, b5, a6, a7, some (.tup (p.2.map .int))] ∧ S' = St S (push f (p.2.take i)) ks vs ∧ Seen (push f (p.2.take i)) ks vs)
      ⟨a5, ks, vs, rfl, rfl, hs⟩ (fun i η S' _ => lock_nil _) fun i x η S' hx ⟨b5, ks, vs, e1, e2, e3⟩ => by
        subst e1 e2
        rw [List.getElem?_map] at hx
        obtain ⟨t, ht, rfl⟩ := Option.map_eq_some_iff.mp hx
        have hl : (push f (p.2.take i)).length ≤ 100 := by
          have := push_len (f := f) (ts := p.2.take i)
          have q := List.length_take_le' i p.2
          have := h.h2 p hp
          omega
        obtain ⟨ks', vs', k1, k2⟩ := push_body (M := Mn n) (η := [some nv, some iv, some (.ref S.length), some (.ref (S.length + 1)), a4, some (.int t), a6, a7, some (.tup (p.2.map .int))]) (S := S) rfl rfl rfl (h.hi p hp t (List.mem_of_getElem? ht)).1 hl e3
        refine ⟨_, rfl, _, _, .inl k2, _, ks', vs', rfl, ?_, ?_⟩
        · rw [take_succ_at ht, push_snoc]
        · rw [take_succ_at ht, push_snoc]; exact k1
    rw [List.take_of_length_le (by rw [List.length_map]; exact Nat.le_refl _)] at e2 e3
    subst e1 e2
    exact ⟨b5, ks', vs', h1, e3⟩
  obtain ⟨a4, a5, a6, a7, a8, ks, vs, hnm, hse⟩ := names
  have hF := ord_le h
  have hFin := ord_in h
  have len_ref : ∀ (f : List Int) (ks : List Key) (vs : List Vl), b1op .len (St S f ks vs) (.ref S.length) = some (.int f.length) := fun f ks vs => by
    simp only [b1op, dctOf, seqOf, g0, Option.map_some, List.length_map]
  have lp : ∃ η2 S2, whlL (fun η1 S2 => ev (Mn n) (.cmp .Lt (.var 6) (.b1 .len (.var 2))) η1 S2) (fun η1 S2 => exec (Mn n) w3_met_from η1 S2) (Mn n).fuel [some nv, some iv, some (.ref S.length), some (.ref (S.length + 1)), a4, a5, some (.int 0), a7, a8] (St S (push [] ((sortN nm).map (·.2))) ks vs) = .nx η2 S2 ∧
      ∃ a4 a5 a6 a7 a8 ks vs, η2 = [some nv, some iv, some (.ref S.length), some (.ref (S.length + 1)), a4, a5, a6, a7, a8] ∧ S2 = St S (ord nm it) ks vs := by
    obtain ⟨η2, S2, h1, i2⟩ := whl_ok (test := fun η1 S2 => ev (Mn n) (.cmp .Lt (.var 6) (.b1 .len (.var 2))) η1 S2) (body := fun η1 S2 => exec (Mn n) w3_met_from η1 S2)
      (fun m η S' => ∃ (k : Nat) (f : List Int) (a4 a5 a7 a8 : Option Vl) (ks : List Key) (vs : List Vl), η = [some nv, some iv, some (.ref S.length), some (.ref (S.length + 1)), a4, a5, some (.int k), a7, a8] ∧ S' = St S f ks vs ∧ Seen f ks vs ∧ k + m = (ord nm it).length ∧ bfs (nxOf it) (it.length - k) k f = ord nm it)
      (fun m η S' ⟨k, f, a4, a5, a7, a8, ks, vs, e1, e2, e3, e4, e5⟩ => by
        subst e1 e2
        have pre : f <+: ord nm it := by rw [← e5]; exact bfs_pre
        have hfl := pre.length_le
        have hk : k < f.length := by
          refine Nat.lt_of_not_le fun c => ?_
          have en : f[k]? = none := List.getElem?_eq_none c
          have : bfs (nxOf it) (it.length - k) k f = f := by
            cases it.length - k with
            | zero => rfl
            | succ d => unfold bfs; rw [en]
          rw [this] at e5
          rw [← e5] at e4; omega
        obtain ⟨x, hx⟩ : ∃ x, f[k]? = some x := ⟨f[k], List.getElem?_eq_getElem hk⟩
        have hxin := hFin x (pre.subset (List.mem_of_getElem? hx))
        obtain ⟨p, hp, hnx, _⟩ := it_at hxin
        have hd : it.length - k = (it.length - (k + 1)) + 1 := by omega
        rw [hd] at e5
        unfold bfs at e5
        rw [hx] at e5
        simp only at e5
        rw [hnx] at e5
        refine ⟨v_cmp (v_var rfl) (v_b1 (v_var rfl) (len_ref f ks vs)) (congrArg some (decide_eq_true (by omega))), ?_⟩
        obtain ⟨b5, ks', vs', k1, k2⟩ := inner a4 a5 (some (.int ((k : Int) + 1))) (some (.str p.1)) p f ks vs (List.mem_of_getElem? hp) (by have := h.i6; omega) e3
        have e7 : ((k : Int) + 1) = ((k + 1 : Nat) : Int) := by omega
        have ix1 : idxop (St S f ks vs) (.ref S.length) (.int k) = some (.int x) := by
          show (match dctOf (St S f ks vs) (.ref S.length) with | some (ks, vs) => _ | none => _) = _
          simp only [dctOf, seqOf, g0]
          have : (f.map Vl.int)[k]? = some (.int x) := by rw [List.getElem?_map, hx]; rfl
          exact ix_lst (S := []) this
        have ex1 : (x - 1 : Int) = (((x - 1).toNat : Nat) : Int) := by have := hxin.1; omega
        refine ⟨_, _, ex_nx (x_asg _ _ (v_idx (v_var rfl) (v_bin (v_idx (v_var rfl) (v_var rfl) ix1) v_cst (b_sub x 1)) (by rw [ex1]; exact hiv.ix _ _ _ (valI_get hp))) rfl) (ex_nx (x_aug rfl v_cst) (ex_nx (x_for _ _ _ (ev_sq (v_var rfl) rfl) k1) ex_nil)), k + 1, push f p.2, a4, b5, some (.str p.1), some (.tup (p.2.map .int)), ks', vs', ?_, rfl, k2, by omega, e5⟩
        rw [e7])
      (fun η S' ⟨k, f, a4, a5, a7, a8, ks, vs, e1, e2, e3, e4, e5⟩ => by
        subst e1 e2
        have pre : f <+: ord nm it := by rw [← e5]; exact bfs_pre
        have hfl := pre.length_le
        exact v_cmp (v_var rfl) (v_b1 (v_var rfl) (len_ref f ks vs)) (congrArg some (decide_eq_false (by omega))))
      (ord nm it).length (Mn n).fuel [some nv, some iv, some (.ref S.length), some (.ref (S.length + 1)), a4, a5, some (.int 0), a7, a8] (St S (push [] ((sortN nm).map (·.2))) ks vs)
      (by have : (Mn n).fuel = 50 := by cases n <;> rfl
          have := h.i6; omega)
      ⟨0, _, a4, a5, a7, a8, ks, vs, rfl, rfl, hse, by omega, rfl⟩
    obtain ⟨k, f, a4, a5, a7, a8, ks, vs, e1, e2, e3, e4, e5⟩ := i2
    have pre : f <+: ord nm it := by rw [← e5]; exact bfs_pre
    have hfl := pre.length_le
    have en : f[k]? = none := List.getElem?_eq_none (by omega)
    have ef : f = ord nm it := by
      rw [← e5]
      cases it.length - k with
      | zero => rfl
      | succ d => unfold bfs; rw [en]
    subst ef
    exact ⟨_, _, h1, a4, a5, _, a7, a8, ks, vs, e1, e2⟩
  obtain ⟨η2, S2, hw, b4, b5, b6, b7, b8, ks2, vs2, rfl, rfl⟩ := lp
  refine cal_ref (T := [.lst ((ord nm it).map .int), .dct ks2 vs2]) (r := 0) rfl ?_ hS rfl (by simp only [Ob.nr, nrs_map_int])
  show exec (Mn n) b_met_from [some nv, some iv, none, none, none, none, none, none, none] S = _
  have hd : evf (Mn n) (.dspk [Sum.inl (0), Sum.inl (-1)] (.cons (.cst (.bl true)) (.cons (.cst (.bl true)) .nil))) [some nv, some iv, some (.ref S.length), none, none, none, none, none, none] (S ++ [.lst []]) = .ok (.dct [Sum.inl 0, Sum.inl (-1)] [.bl true, .bl true]) (S ++ [.lst []]) :=
    f_dspk (vs_cons v_cst (vs_cons v_cst vs_nil)) (by simp [nrs, Vl.nr]) (by decide) rfl (by decide)
  have e2 : S ++ [.lst []] ++ [.dct [Sum.inl 0, Sum.inl (-1)] [.bl true, .bl true]] = St S [] [Sum.inl 0, Sum.inl (-1)] [.bl true, .bl true] := by simp
  refine ex_nx (x_asg _ _ (v_alc (f_lst vs_nil (by simp))) rfl) (ex_nx (x_asg (.ref (S.length + 1)) _ (by have := v_alc hd; rw [e2] at this; simpa using this) rfl) (ex_nx (x_for _ _ _ (ev_sq (v_inl (f_srtp (v_var rfl) (srtp_valN hn nd (by have := h.n6; omega)))) rfl) hnm) (ex_nx (x_asg _ _ v_cst rfl) (ex_nx (x_whl hw) (ex_ret (x_ret _ _ (v_var rfl)))))))
end K03
set_option Elab.async false
set_option linter.all false
set_option maxRecDepth 100000
set_option maxHeartbeats 4000000
namespace K03
open PySem L2 Oz

theorem cal_init2 {M : Mach} {d : Dfn} {xs : List Vl} {S : Hs} {o o' : Ob} (hl : xs.length = d.np) (hb : ∃ η T, exec M d.body (xs.map some ++ List.replicate (d.nn - xs.length) none) (S ++ [o]) = .nx η (S ++ [o'] ++ T)) (hS : NR S) (hv : o'.nr = true) : calD M d xs (S ++ [o]) = .ok (.val .non) (S ++ [o']) := by
  obtain ⟨η, T, hb⟩ := hb
  unfold calD
  rw [if_pos hl, hb]
  simp only
  have hn : (S ++ [o]).length = (S ++ [o']).length := by simp
  rw [hn]
  have ht : (S ++ [o'] ++ T).take (S ++ [o']).length = S ++ [o'] := by
    rw [List.take_append_of_le_length (Nat.le_refl _), List.take_length]
  have hT : NR ((S ++ [o'] ++ T).take (S ++ [o']).length) := by rw [ht]; exact hS.one hv
  rw [finR_val hT (by simp only [Vl.nr]), ht]
/-! ### the form in which a web stands -/
def canN (nm : Nms) (it : Its) : Nms := (sortN nm).map fun p => (p.1, anew (ord nm it) p.2)
def canI (nm : Nms) (it : Its) : Its := (ord nm it).map fun x => (wOf it x, (nxOf it x).map (anew (ord nm it)))
def webO (ld : Nms) (it : Its) : Ob := .ins "Web" ["leads", "spots"] [.dct (ld.map fun p => Sum.inr p.1) (ld.map fun p => .int p.2), .lst (valI it)]
theorem nrs_ints (ld : Nms) : nrs (ld.map fun p => Vl.int p.2) = true := nrs_of fun x hx => by
  obtain ⟨p, _, rfl⟩ := List.mem_map.mp hx
  simp only [Vl.nr]
theorem webO_nr (ld : Nms) (it : Its) : (webO ld it).nr = true := by simp only [webO, Ob.nr, nrs, Vl.nr, nrs_ints, valI_nr, Bool.and_self]
/-- what leads on stays among what is met -/
theorem ord_clo {nm : Nms} {it : Its} (h : Fit nm it) : (∀ p ∈ nm, 0 < p.2 → p.2 ∈ ord nm it) ∧ ∀ x ∈ ord nm it, ∀ t ∈ nxOf it x, 0 < t → t ∈ ord nm it := by
  refine ⟨fun p hp h0 => ?_, fun x hx t ht h0 => ?_⟩
  · exact bfs_pre.subset (push_mem.mpr (.inr ⟨List.mem_map.mpr ⟨p, (sortN_perm nm).mem_iff.mpr hp, rfl⟩, h0⟩))
  · obtain ⟨i, hi⟩ := List.getElem?_of_mem hx
    exact bfs_closed (by have := ord_le h; unfold ord at this; omega) i x (Nat.zero_le _) hi t ht h0
/-- numbers of a dict: what stands behind each -/
def mF (F : List Int) (u : Int) : Option Int := if u ∈ F then some ((F.idxOf u : Int) + 1) else none
def m01 (m : Int → Option Int) (u : Int) : Option Int := if u = -1 then some (-1) else if u = 0 then some 0 else m u
theorem look_idx (s u : Int) : ∀ (F : List Int), lookG (F.map (Sum.inl : Int → Key)) ((List.range F.length).map fun (i : Nat) => Vl.int (s + i)) (Sum.inl u) = if u ∈ F then some (.int (s + F.idxOf u)) else none := by
  intro F
  induction F generalizing s with
  | nil => simp [lookG]
  | cons x F ih =>
    rw [List.length_cons, List.range_succ_eq_map, List.map_cons, List.map_cons, List.map_map]
    simp only [lookG]
    by_cases c : x = u
    · subst c
      rw [if_pos rfl, if_pos List.mem_cons_self]
      simp
    · have c2 : ¬ (Sum.inl x : Key) = Sum.inl u := fun z => c (Sum.inl.inj z)
      rw [if_neg c2]
      have e : (List.range F.length).map ((fun (i : Nat) => Vl.int (s + i)) ∘ Nat.succ) = (List.range F.length).map fun (i : Nat) => Vl.int (s + 1 + i) := List.map_congr_left fun i _ => by
        simp only [Function.comp]
        congr 1
        omega
      rw [e, ih (s + 1)]
      by_cases d : u ∈ F
      · have e3 : (x :: F).idxOf u = F.idxOf u + 1 := by simp only [List.idxOf_cons, beq_eq_false_iff_ne.mpr c, cond_false]
        rw [if_pos d, if_pos (List.mem_cons_of_mem _ d), e3]
        congr 2
        omega
      · rw [if_neg d, if_neg (by simp [d, Ne.symm c])]
def gEnum (x : Vl) : Key × Vl := match x with
  | .tup [y, .int p] => (Sum.inl p, y)
  | _ => (Sum.inl 0, .non)
theorem enum_g (s : Int) : ∀ F : List Int, ((enumL s (F.map Vl.int)).map gEnum).map (·.1) = F.map Sum.inl ∧ ((enumL s (F.map Vl.int)).map gEnum).map (·.2) = (List.range F.length).map fun (i : Nat) => Vl.int (s + i) := by
  intro F
  induction F generalizing s with
  | nil => exact ⟨rfl, rfl⟩
  | cons x F ih =>
    obtain ⟨h1, h2⟩ := ih (s + 1)
    rw [List.length_cons, List.range_succ_eq_map, List.map_cons, List.map_cons]
    simp only [enumL, List.map_cons, gEnum]
    refine ⟨by rw [h1], ?_⟩
    rw [h2, List.map_map]
    congr 1
    · simp
    · exact List.map_congr_left fun i _ => by
        simp only [Function.comp]
        congr 1
        omega
theorem dm_order {F : List Int} (nd : F.Nodup) : ∃ ks vs, mergeD ((enumL 1 (F.map Vl.int)).map gEnum) [] [] = (ks, vs) ∧ Dm ks vs (mF F) ∧ ks.length = F.length := by
  obtain ⟨h1, h2⟩ := enum_g 1 F
  have hk : (F.map (Sum.inl : Int → Key)).Nodup := List.Pairwise.map _ (fun a b ne z => ne (Sum.inl.inj z)) nd
  refine ⟨_, _, mergeD_new (by rw [List.nil_append, h1]; exact hk), ?_, by rw [h1]; simp⟩
  rw [h1, h2, List.nil_append, List.nil_append]
  refine ⟨by simp, nrs_of fun x hx => ?_, fun u => ?_⟩
  · obtain ⟨i, _, rfl⟩ := List.mem_map.mp hx
    simp only [Vl.nr]
  · rw [look_idx]
    unfold mF
    by_cases c : u ∈ F
    · rw [if_pos c, if_pos c, Option.map_some]
      congr 2
      omega
    · rw [if_neg c, if_neg c]; rfl
theorem m01_anew {F : List Int} {m : Int → Option Int} (hm : ∀ u, 0 < u → m u = mF F u) {t : Int} (h : -1 ≤ t) (hF : 0 < t → t ∈ F) : m01 m t = some (anew F t) := by
  unfold m01 anew
  by_cases c : 0 < t
  · rw [if_neg (by omega), if_neg (by omega), if_pos c, hm t c]
    unfold mF
    rw [if_pos (hF c)]
  · rw [if_neg c]
    by_cases d : t = -1
    · rw [if_pos d, d]
    · rw [if_neg d, if_pos (show t = 0 by omega)]
      congr 1
      omega
theorem g1' {S T : Hs} {a b : Ob} : (S ++ [a, b] ++ T)[S.length + 1]? = some b := by
  rw [List.getElem?_append_left (by simp)]; exact g1
def gName (F : List Int) (x : Vl) : Key × Vl := match x with
  | .tup [.str z, .int t] => (Sum.inr z, .int (anew F t))
  | _ => (Sum.inl 0, .non)
def fSpot (it : Its) (F : List Int) (x : Vl) : Vl := match x with
  | .int x => .tup [.str (wOf it x), .tup (((nxOf it x).map (anew F)).map .int)]
  | _ => .non
theorem valI_canI (nm : Nms) (it : Its) : valI (canI nm it) = ((ord nm it).map Vl.int).map (fSpot it (ord nm it)) := by
  unfold valI canI
  rw [List.map_map, List.map_map]
  rfl
theorem canN_dct {nm : Nms} {it : Its} (nd : (nm.map (·.1)).Nodup) : mergeD ((valN (sortN nm)).map (gName (ord nm it))) [] [] = ((canN nm it).map fun p => Sum.inr p.1, (canN nm it).map fun p => .int p.2) := by
  have h1 : ((valN (sortN nm)).map (gName (ord nm it))).map (·.1) = (canN nm it).map fun p => (Sum.inr p.1 : Key) := by
    unfold valN canN
    rw [List.map_map, List.map_map, List.map_map]
    rfl
  have h2 : ((valN (sortN nm)).map (gName (ord nm it))).map (·.2) = (canN nm it).map fun p => Vl.int p.2 := by
    unfold valN canN
    rw [List.map_map, List.map_map, List.map_map]
    rfl
  rw [mergeD_new, h1, h2, List.nil_append, List.nil_append]
  rw [List.nil_append, h1]
  have h3 : (canN nm it).map (fun p => (Sum.inr p.1 : Key)) = ((sortN nm).map (·.1)).map Sum.inr := by
    unfold canN
    rw [List.map_map, List.map_map]
    rfl
  rw [h3]
  exact List.Pairwise.map _ (fun a b ne z => ne (Sum.inr.inj z)) (sortN_nd nd)
theorem r_init (n : Nat) {nm : Nms} {it : Its} (h : Fit nm it) (hw : ∀ p ∈ nm, Word p.1) (hit : ∀ p ∈ it, Item it.length p) (hfull : (ord nm it).length = it.length) {nv iv : Vl} (hn : Sq nv (valN nm)) (hiv : Sq iv (valI it)) {S : Hs} (hS : NR S) :
    (Mn (n + 3)).cal (dot "Web" "__init__") [.ref S.length, nv, iv] (S ++ [.ins "Web" [] []]) = .ok (.val .non) (S ++ [webO (canN nm it) (canI nm it)]) := by
  rw [u_Webu_initu]
  refine cal_init2 rfl ?_ hS (webO_nr _ _)
  show ∃ η T, exec (Mn (n + 2)) b_Webu_initu [some (.ref S.length), some nv, some iv, none, none, none, none, none, none, none, none, none, none] (S ++ [.ins "Web" [] []]) = _
  have hS1 : NR (S ++ [.ins "Web" [] []]) := hS.one (by simp [Ob.nr, nrs])
  -- items
  have items : ∃ a3 a4 a5, forL (fun η1 S2 => exec (Mn (n + 2)) w1_Webu_initu η1 S2) (.tp (.cons (.nm 3) (.cons (.tp (.cons (.nm 4) (.cons (.nm 5) .nil))) .nil))) [] (enumL 0 (valI it)) [some (.ref S.length), some nv, some iv, none, none, none, none, none, none, none, none, none, none] (S ++ [.ins "Web" [] []])
      = .nx [some (.ref S.length), some nv, some iv, a3, a4, a5, none, none, none, none, none, none, none] (S ++ [.ins "Web" [] []]) := by
    obtain ⟨η', S', h1, a3, a4, a5, e1, e2⟩ := for_ok (body := fun η1 S2 => exec (Mn (n + 2)) w1_Webu_initu η1 S2) (t := .tp (.cons (.nm 3) (.cons (.tp (.cons (.nm 4) (.cons (.nm 5) .nil))) .nil))) (lk := []) (xs := enumL 0 (valI it)) (η := [some (.ref S.length), some nv, some iv, none, none, none, none, none, none, none, none, none, none]) (S := S ++ [.ins "Web" [] []])
      (fun i η S' => ∃ a3 a4 a5, η = [some (.ref S.length), some nv, some iv, a3, a4, a5, none, none, none, none, none, none, none] ∧ S' = S ++ [.ins "Web" [] []])
      ⟨none, none, none, rfl, rfl⟩ (fun i η S' _ => lock_nil _) fun i x η S' hx ⟨a3, a4, a5, e1, e2⟩ => by
        subst e1 e2
        obtain ⟨v, hv, rfl⟩ := enumL_at hx
        obtain ⟨p, hp, rfl⟩ := valI_at hv
        exact ⟨_, rfl, _, _, .inl (ex_nx (x_ite0 _ (v_bnot (v_call (r := .val (.bl true)) (vs_cons (v_var rfl) (vs_cons (v_var rfl) (vs_cons (v_b1 (v_var rfl) (by have := hiv.len (S ++ [.ins "Web" [] []]); rwa [valI_len] at this)) vs_nil))) (r_is_item n (hit p (List.mem_of_getElem? hp)) hS1))) ex_nil) ex_nil), _, _, _, rfl, rfl⟩
    subst e1 e2
    exact ⟨a3, a4, a5, h1⟩
  obtain ⟨a3, a4, a5, hit1⟩ := items
  have F := ord nm it
  obtain ⟨c1, c2⟩ := ord_clo h
  have hnl : ∀ S, b1op .len S nv = some (.int nm.length) := fun S => by have := hn.len S; rwa [valN_len] at this
  have hil : ∀ S, b1op .len S iv = some (.int it.length) := fun S => by have := hiv.len S; rwa [valI_len] at this
  -- the names' targets
  have tgts : evf (Mn (n + 2)) q2_Webu_initu [some (.ref S.length), some nv, some iv, a3, a4, a5, none, none, none, none, none, none, none] (S ++ [.ins "Web" [] []]) = .ok (.lst ((valN nm).map fun _ => .bl true)) (S ++ [.ins "Web" [] []]) := by
    unfold q2_Webu_initu
    refine ev_compM [] (valN nm) (fun _ => .bl true) (ev_sq (v_var rfl) (hn.walk _)) (lock_nil _) (by rw [valN_len]; have := h.n6; omega) (fun x _ => by simp only [Vl.nr]) fun x hx acc _ => ?_
    obtain ⟨p, hp, rfl⟩ := List.mem_map.mp hx
    obtain ⟨t1, t2⟩ := h.ht p hp
    exact ⟨_, rfl, v_chn (d1 := true) v_cst (v_var rfl) (congrArg some (decide_eq_true t1)) (v_b1 (v_var rfl) (hil _)) (congrArg some (decide_eq_true t2))⟩
  -- the dict of new numbers
  obtain ⟨ks, vs, ed, hD, hkl⟩ := dm_order (F := ord nm it) ord_nd
  have ofl := ord_le h
  have hi6 := h.i6
  have h6 := h.n6
  have dct : evf (Mn (n + 2)) q3_Webu_initu [some (.ref S.length), some nv, some iv, a3, a4, a5, none, none, some (.lst ((ord nm it).map .int)), none, none, none, none] (S ++ [.ins "Web" [] []]) = .ok (.dct ks vs) (S ++ [.ins "Web" [] []]) := by
    have := ev_dcomp (M := Mn (n + 2)) (own := [10, 11]) (ke := .var 11) (ve := .var 10) (t := .tp (.cons (.nm 10) (.cons (.nm 11) .nil))) (s := .enm (.var 8) 1) (η := [some (.ref S.length), some nv, some iv, a3, a4, a5, none, none, some (.lst ((ord nm it).map .int)), none, none, none, none]) (S := S ++ [.ins "Web" [] []]) [] (enumL 1 ((ord nm it).map .int)) gEnum (ev_enm (v_var rfl) rfl) (lock_nil _) (by rw [enumL_len, List.length_map]; omega) (fun x hx => by
        obtain ⟨i, hi⟩ := List.getElem?_of_mem hx
        obtain ⟨v, hv, rfl⟩ := enumL_at hi
        rw [List.getElem?_map] at hv
        obtain ⟨y, _, rfl⟩ := Option.map_eq_some_iff.mp hv
        simp only [gEnum, Vl.nr]) fun x hx ks vs _ => by
        obtain ⟨i, hi⟩ := List.getElem?_of_mem hx
        obtain ⟨v, hv, rfl⟩ := enumL_at hi
        rw [List.getElem?_map] at hv
        obtain ⟨y, _, rfl⟩ := Option.map_eq_some_iff.mp hv
        exact ⟨_, .int y, rfl, v_var rfl, rfl, v_var rfl⟩
    rw [ed] at this
    exact this
  have D1 := (hD.put 0 0).put (-1) (-1)
  generalize hks2 : (putD (putD ks vs (Sum.inl 0) (.int 0)).1 (putD ks vs (Sum.inl 0) (.int 0)).2 (Sum.inl (-1)) (.int (-1))).1 = ks2 at D1
  generalize hvs2 : (putD (putD ks vs (Sum.inl 0) (.int 0)).1 (putD ks vs (Sum.inl 0) (.int 0)).2 (Sum.inl (-1)) (.int (-1))).2 = vs2 at D1
  have hm : ∀ t : Int, -1 ≤ t → (0 < t → t ∈ ord nm it) → lookG ks2 vs2 (Sum.inl t) = some (.int (anew (ord nm it) t)) := fun t h1 h2 => by
    rw [D1.2.2 t]
    have := m01_anew (F := ord nm it) (m := mF (ord nm it)) (fun _ _ => rfl) h1 h2
    unfold m01 at this
    exact congrArg (Option.map Vl.int) this
  have ixA : ∀ (T : Hs) (a : Ob) (t : Int), -1 ≤ t → (0 < t → t ∈ ord nm it) → idxop (S ++ [a, .dct ks2 vs2] ++ T) (.ref (S.length + 1)) (.int t) = some (.int (anew (ord nm it) t)) := fun T a t h1 h2 => by
    rw [ix_dct (ks := ks2) (vs := vs2) (by simp only [dctOf, g1'])]
    exact hm t h1 h2
  have klen : ks.length ≤ 100 := by omega
  have klen2 : (putD ks vs (Sum.inl 0) (.int 0)).1.length ≤ 200 := by
    have := (put_len (k := Sum.inl 0) (y := .int 0) hD.1).2
    omega
  -- names and spots
  have leads : evf (Mn (n + 2)) q4_Webu_initu [some (.ref S.length), some nv, some iv, a3, a4, a5, none, none, some (.lst ((ord nm it).map .int)), some (.ref (S.length + 1)), none, none, none] (S ++ [.ins "Web" [] [], .dct ks2 vs2]) = .ok (.dct ((canN nm it).map fun p => Sum.inr p.1) ((canN nm it).map fun p => .int p.2)) (S ++ [.ins "Web" [] [], .dct ks2 vs2]) := by
    have := ev_dcomp (M := Mn (n + 2)) (own := [6, 7]) (ke := .var 6) (ve := .idx (.var 9) (.var 7)) (t := .tp (.cons (.nm 6) (.cons (.nm 7) .nil))) (s := .sq (.inl (.srtp (.var 1)))) (η := [some (.ref S.length), some nv, some iv, a3, a4, a5, none, none, some (.lst ((ord nm it).map .int)), some (.ref (S.length + 1)), none, none, none]) (S := S ++ [.ins "Web" [] [], .dct ks2 vs2]) [] (valN (sortN nm)) (gName (ord nm it)) (ev_sq (v_inl (f_srtp (v_var rfl) (srtp_valN hn h.nd (by omega)))) rfl) (lock_nil _) (by rw [valN_len, (sortN_perm nm).length_eq]; omega) (fun x hx => by
        obtain ⟨p, _, rfl⟩ := List.mem_map.mp hx
        simp only [gName, Vl.nr]) fun x hx ks vs _ => by
        obtain ⟨p, hp, rfl⟩ := List.mem_map.mp hx
        have hp' := (sortN_perm nm).mem_iff.mp hp
        exact ⟨_, .str p.1, rfl, v_var rfl, rfl, v_idx (v_var rfl) (v_var rfl) (ixA _ _ _ (h.ht p hp').1 (c1 p hp'))⟩
    rw [canN_dct h.nd] at this
    exact this
  have spots : ∀ (a : Ob), evf (Mn (n + 2)) q6_Webu_initu [some (.ref S.length), some nv, some iv, a3, a4, a5, none, none, some (.lst ((ord nm it).map .int)), some (.ref (S.length + 1)), none, none, none] (S ++ [a, .dct ks2 vs2]) = .ok (.lst (valI (canI nm it))) (S ++ [a, .dct ks2 vs2]) := fun a => by
    rw [valI_canI]
    unfold q6_Webu_initu
    refine ev_compM [] ((ord nm it).map .int) (fSpot it (ord nm it)) (ev_sq (v_var rfl) rfl) (lock_nil _) (by rw [List.length_map]; omega) (fun x hx => by
      obtain ⟨y, _, rfl⟩ := List.mem_map.mp hx
      simp only [fSpot, Vl.nr, nrs, nrs_map_int, Bool.and_self]) fun x hx acc _ => ?_
    obtain ⟨y, hy, rfl⟩ := List.mem_map.mp hx
    have hyin := ord_in h y hy
    obtain ⟨p, hp, hnx, hwo⟩ := it_at hyin
    have ey : (y - 1 : Int) = (((y - 1).toNat : Nat) : Int) := by have := hyin.1; omega
    have ixI : ∀ S, idxop S iv (.int (y - 1)) = some (.tup [.str p.1, .tup (p.2.map .int)]) := fun S => by
      rw [ey]; exact hiv.ix _ _ _ (valI_get hp)
    refine ⟨_, rfl, ?_⟩
    show ev _ _ _ _ = .ok (.tup [.str (wOf it y), .tup (((nxOf it y).map (anew (ord nm it))).map .int)]) _
    rw [hwo, hnx]
    refine v_tup (vs_cons (v_idx (v_idx (v_var rfl) (v_bin (v_var rfl) v_cst (b_sub y 1)) (ixI _)) v_cst (ix_tup (i := 0) rfl)) (vs_cons (v_b1 (v_inl (o := .lst ((p.2.map (anew (ord nm it))).map .int)) ?_) rfl) vs_nil)) (show 2 ≤ 1000000 by decide)
    · unfold q5_Webu_initu
      have e : (p.2.map (anew (ord nm it))).map Vl.int = (p.2.map Vl.int).map (fun v => match v with | .int t => .int (anew (ord nm it) t) | _ => .non) := by
        rw [List.map_map, List.map_map]; rfl
      rw [e]
      refine ev_compM [] (p.2.map .int) _ (ev_sq (v_idx (v_idx (v_var rfl) (v_bin (v_var rfl) v_cst (b_sub y 1)) (ixI _)) v_cst (ix_tup (i := 1) rfl)) rfl) (lock_nil _) (by rw [List.length_map]; have := h.h2 p (List.mem_of_getElem? hp); omega) (fun x hx => by
        obtain ⟨t, _, rfl⟩ := List.mem_map.mp hx
        simp only [Vl.nr]) fun x hx acc2 _ => ?_
      obtain ⟨t, ht, rfl⟩ := List.mem_map.mp hx
      refine ⟨_, rfl, v_idx (v_var rfl) (v_var rfl) ?_⟩
      have ht' : t ∈ nxOf it y := by rw [hnx]; exact ht
      have := ixA ([.lst acc] ++ [.lst acc2]) a t (nx_in h y t ht').1 (c2 y hy t ht')
      rw [← List.append_assoc] at this
      exact this
  have e1 : S ++ [.ins "Web" [] []] ++ [.dct ks vs] = S ++ [.ins "Web" [] [], .dct ks vs] := by simp
  have n1 : (S ++ [Ob.ins "Web" [] []]).length = S.length + 1 := by simp
  refine ⟨[some (.ref S.length), some nv, some iv, a3, a4, a5, none, none, some (.lst ((ord nm it).map .int)), some (.ref (S.length + 1)), none, none, none], [.dct ks2 vs2], ex_nx (x_ex _ _ (v_call (r := .val .non) (vs_cons (v_var rfl) vs_nil) (r_need_names n hw h.nd (by omega) hn.walk hS1))) (ex_nx (x_for _ _ _ (ev_enm (v_var rfl) (hiv.walk _)) hit1) (ex_nx (x_ite0 _ (v_bnot (v_b1 (v_inl tgts) (all_true _ _))) ex_nil) (ex_nx (x_ite0 _ (v_or0 (v_cmp (v_b1 (v_var rfl) (hnl _)) v_cst (congrArg some (decide_eq_false ?_))) (v_cmp (v_b1 (v_var rfl) (hil _)) v_cst (congrArg some (decide_eq_false ?_)))) ex_nil) (ex_nx (x_asg _ _ (v_call (vs_cons (v_var rfl) (vs_cons (v_var rfl) vs_nil)) (r_met (n + 1) h hn hiv hS1)) rfl) (ex_nx (x_ite0 _ (v_cmp (v_b1 (v_var rfl) (len_lst _ _)) (v_b1 (v_var rfl) (hil _)) (congrArg some (decide_eq_false ?_))) ex_nil) (ex_nx (x_asg (.ref (S.length + 1)) (S ++ [.ins "Web" [] [], .dct ks vs]) ?_ rfl) (ex_nx (x_iset2 (v_tup (vs_cons v_cst (vs_cons v_cst vs_nil)) (show 2 ≤ 1000000 by decide)) (v_var rfl) v_cst (iset_dct (kk := Sum.inl 0) g1 rfl (by omega)) (v_var rfl) v_cst (iset_dct (kk := Sum.inl (-1)) (by rw [s1, g1]) rfl (by omega))) ?_)))))))⟩
  · omega
  · omega
  · rw [List.length_map]; omega
  · have := v_alc dct
    rw [e1, n1] at this
    exact this
  · rw [s1, s1, hks2, hvs2]
    refine ex_nx (x_fset (v_inl leads) (v_var rfl) g0 (show 0 < 1000 by decide)) ?_
    rw [s0]
    refine ex_nx (x_fset (v_inl (spots _)) (v_var rfl) g0 (show 1 < 1000 by decide)) ?_
    rw [s0, ex_nil]
    have : S ++ [webO (canN nm it) (canI nm it)] ++ [Ob.dct ks2 vs2] = S ++ [webO (canN nm it) (canI nm it), .dct ks2 vs2] := by simp
    rw [this]
    rfl
end K03
set_option Elab.async false
set_option linter.all false
set_option maxRecDepth 100000
set_option maxHeartbeats 4000000
namespace K03
open PySem L2 Oz

/-! ### small texts -/
def Sm (b : Nat) (z : Str) : Prop := z.length ≤ b ∧ ∀ c ∈ z.cps.toList, c < 0x110000
theorem tl_app' (x y : Str) : (x ++ y).cps.toList = x.cps.toList ++ y.cps.toList := by
  show (x.cps ++ y.cps).toList = _
  simp
theorem Sm.app {a b : Nat} {x y : Str} (h : Sm a x) (k : Sm b y) : Sm (a + b) (x ++ y) := by
  refine ⟨?_, fun c hc => ?_⟩
  · show (x ++ y).cps.toList.length ≤ _
    rw [tl_app', List.length_append]
    have h1 : x.cps.toList.length ≤ a := h.1
    have h2 : y.cps.toList.length ≤ b := k.1
    omega
  · rw [tl_app'] at hc
    exact (List.mem_append.mp hc).elim (h.2 c) (k.2 c)
theorem Sm.le {a b : Nat} {x : Str} (h : Sm a x) (l : a ≤ b) : Sm b x := ⟨Nat.le_trans h.1 l, h.2⟩
theorem joinL_ok {y : List Nat} {b k : Nat} (hy : y.length ≤ k ∧ ∀ c ∈ y, c < 0x110000) : ∀ ps : List (List Nat), (∀ p ∈ ps, p.length ≤ b ∧ ∀ c ∈ p, c < 0x110000) → (TL.joinL y ps).length ≤ ps.length * (b + k) ∧ ∀ c ∈ TL.joinL y ps, c < 0x110000
  | [], _ => ⟨by simp [TL.joinL], fun c h => by simp [TL.joinL] at h⟩
  | [p], h => by
    have hp := h p List.mem_cons_self
    simp only [TL.joinL]
    exact ⟨by simp; omega, hp.2⟩
  | p :: q :: r, h => by
    have hp := h p List.mem_cons_self
    obtain ⟨i1, i2⟩ := joinL_ok hy (q :: r) fun x hx => h x (List.mem_cons_of_mem _ hx)
    simp only [TL.joinL]
    refine ⟨?_, fun c hc => ?_⟩
    · rw [List.length_append, List.length_append]
      simp only [List.length_cons] at i1 ⊢
      have e : (r.length + 1 + 1) * (b + k) = (r.length + 1) * (b + k) + (b + k) := Nat.succ_mul _ _
      rw [e]
      have := hp.1
      have := hy.1
      omega
    · rcases List.mem_append.mp hc with hc | hc
      · exact hp.2 c hc
      · rcases List.mem_append.mp hc with hc | hc
        · exact hy.2 c hc
        · exact i2 c hc
theorem Sm.join {b k : Nat} {y : Str} {ps : List Str} (hy : Sm k y) (h : ∀ p ∈ ps, Sm b p) : Sm (ps.length * (b + k)) (Txt.join y ps) := by
  have := joinL_ok (y := y.cps.toList) hy (ps.map fun z => z.cps.toList) fun p hp => by
    obtain ⟨z, hz, rfl⟩ := List.mem_map.mp hp
    exact h z hz
  rw [List.length_map] at this
  rw [TL.join_eq]
  have e := TL.tl_join y ps
  have e2 : (Str.join y ps).cps.toList = TL.joinL y.cps.toList (ps.map fun z => z.cps.toList) := e
  exact ⟨by show (Str.join y ps).cps.toList.length ≤ _; rw [e2]; exact this.1, by rw [e2]; exact this.2⟩
theorem small_join {S : Hs} {b k : Nat} {y : Str} {v : Vl} {ps : List Str} (hv : seqOf S v = some (ps.map .str)) (hy : Sm k y) (h : ∀ p ∈ ps, Sm b p) (hb : ps.length * (b + k) ≤ 1000000) : tmop .join S y v = some (.str (Txt.join y ps)) := by
  have all : ∀ qs : List Str, allS (qs.map Vl.str) = some qs := fun qs => by
    induction qs with
    | nil => rfl
    | cons q qs ih => simp only [List.map_cons, allS, ih, Option.map_some]
  have sum : ∀ qs : List Str, (∀ p ∈ qs, Sm b p) → (qs.map (·.length)).sum ≤ qs.length * b := fun qs => by
    induction qs with
    | nil => intro _; simp
    | cons q qs ih =>
      intro h
      have h1 := (h q List.mem_cons_self).1
      have h2 := ih fun p hp => h p (List.mem_cons_of_mem _ hp)
      simp only [List.map_cons, List.sum_cons, List.length_cons]
      rw [Nat.add_mul]; omega
  unfold tmop
  simp only [hv, Option.bind_some, all]
  have s := sum ps h
  have m : ps.length * y.length ≤ ps.length * k := Nat.mul_le_mul_left _ hy.1
  rw [Nat.mul_add] at hb
  rw [if_pos (by omega)]
theorem Word.sm {z : Str} (h : Word z) : Sm 6 z := ⟨h.hi, fun c hc => by
  have : ∀ c ∈ abc.cps.toList, c < 0x110000 := by decide
  exact this c (h.al c hc)⟩
/-! ### marks -/
def mk (t : Int) : Str := if t = 0 then "-" else if t = -1 then "*" else ((toString t : String) : Str)
theorem sm_str {t : Int} (h : 0 ≤ t ∧ t ≤ 7) : Sm 2 ((toString t : String) : Str) := by
  have : t = 0 ∨ t = 1 ∨ t = 2 ∨ t = 3 ∨ t = 4 ∨ t = 5 ∨ t = 6 ∨ t = 7 := by omega
  rcases this with rfl | rfl | rfl | rfl | rfl | rfl | rfl | rfl <;> exact ⟨by decide, by decide⟩
theorem mk_sm {t : Int} (h : -1 ≤ t ∧ t ≤ 6) : Sm 2 (mk t) := by
  unfold mk
  split
  · exact ⟨by decide, by decide⟩
  · split
    · exact ⟨by decide, by decide⟩
    · exact sm_str (by omega)
theorem str_int {S : Hs} {t : Int} (h : -1 ≤ t ∧ t ≤ 7) : b1op .str S (.int t) = some (.str ((toString t : String) : Str)) := by
  refine if_pos ?_
  have : t.natAbs < 10 ^ 6 := by omega
  have := log_small this
  omega
theorem r_mark (n : Nat) {t : Int} (h : -1 ≤ t ∧ t ≤ 6) {S : Hs} (hS : NR S) : (Mn (n + 1)).cal "mark" [.int t] S = .ok (.val (.str (mk t))) S := by
  rw [u_mark]
  refine cal_val (T := []) rfl ?_ hS (by simp only [Vl.nr])
  show exec (Mn n) b_mark [some (.int t)] S = _
  rw [List.append_nil]
  by_cases c : t = 0
  · subst c
    exact ex_ret (x_ite1 _ (v_cmp (v_var rfl) v_cst rfl) (ex_ret (x_ret _ _ v_cst)))
  · refine ex_nx (x_ite0 _ (v_cmp (v_var rfl) v_cst (congrArg some (decide_eq_false c))) ex_nil) (ex_ret (x_ret _ _ ?_))
    unfold mk
    rw [if_neg c]
    by_cases d : t = -1
    · rw [if_pos d]
      exact v_ite1 (v_cmp (v_var rfl) v_cst (congrArg some (decide_eq_true d))) v_cst
    · rw [if_neg d]
      exact v_ite0 (v_cmp (v_var rfl) v_cst (congrArg some (decide_eq_false d))) (v_b1 (v_var rfl) (str_int (by omega)))
theorem r_lmark (n : Nat) {t : Int} (h : -1 ≤ t ∧ t ≤ 6) {S : Hs} (hS : NR S) : (Mn (n + 1)).cal "_law_mark" [.int t] S = .ok (.val (.str (mk t))) S := by
  rw [u__law_mark]
  refine cal_val (T := []) rfl ?_ hS (by simp only [Vl.nr])
  show exec (Mn n) b__law_mark [some (.int t)] S = _
  rw [List.append_nil]
  refine ex_ret (x_ret _ _ ?_)
  unfold mk
  by_cases c : t = 0
  · rw [if_pos c]
    exact v_ite1 (v_cmp (v_var rfl) v_cst (congrArg some (decide_eq_true c))) v_cst
  · rw [if_neg c]
    refine v_ite0 (v_cmp (v_var rfl) v_cst (congrArg some (decide_eq_false c))) ?_
    by_cases d : t = -1
    · rw [if_pos d]
      exact v_ite1 (v_cmp (v_var rfl) v_cst (congrArg some (decide_eq_true (by omega)))) v_cst
    · rw [if_neg d]
      exact v_ite0 (v_cmp (v_var rfl) v_cst (congrArg some (decide_eq_false (by omega)))) (v_b1 (v_var rfl) (str_int (by omega)))
/-! ### words -/
def wN (p : Str × Int) : Str := (p.1 ++ ("=" : Str)) ++ mk p.2
def inn (p : Str × List Int) : Str := Txt.join "," (p.2.map mk)
def wI (k : Int) (p : Str × List Int) : Str := (((((toString k : String) : Str) ++ (":" : Str)) ++ p.1 ++ ("(" : Str)) ++ inn p) ++ (")" : Str)
def wIs : Int → Its → List Str
  | _, [] => []
  | k, p :: ps => wI k p :: wIs (k + 1) ps
theorem wIs_len : ∀ (it : Its) (k : Int), (wIs k it).length = it.length
  | [], _ => rfl
  | p :: ps, k => by simp only [wIs, List.length_cons, wIs_len ps]
theorem wIs_at : ∀ {it : Its} {k : Int} {i : Nat} {p : Str × List Int}, it[i]? = some p → (wIs k it)[i]? = some (wI (k + i) p)
  | [], _, _, _, h => by simp at h
  | q :: ps, k, 0, p, h => by simp at h; subst h; simp [wIs]
  | q :: ps, k, i + 1, p, h => by
    simp only [List.getElem?_cons_succ] at h
    simp only [wIs, List.getElem?_cons_succ]
    rw [wIs_at h]
    congr 2
    omega
/-- what a raw web is -/
structure Raw (ld : Nms) (it : Its) : Prop where
  fit : Fit ld it
  hw : ∀ p ∈ ld, Word p.1
  hi : ∀ p ∈ it, Item it.length p
theorem Raw.t6 {ld : Nms} {it : Its} (h : Raw ld it) {p : Str × Int} (hp : p ∈ ld) : -1 ≤ p.2 ∧ p.2 ≤ 6 := by
  have := h.fit.ht p hp
  have := h.fit.i6
  omega
theorem Raw.i6 {ld : Nms} {it : Its} (h : Raw ld it) {p : Str × List Int} (hp : p ∈ it) : ∀ t ∈ p.2, -1 ≤ t ∧ t ≤ 6 := fun t ht => by
  have := (h.hi p hp).t t ht
  have := h.fit.i6
  omega
theorem Item.sm {many : Nat} {p : Str × List Int} (h : Item many p) : Sm 4 p.1 := by
  rcases h.w with ⟨h, _⟩ | ⟨h, _⟩ | ⟨h, _⟩ <;> (rw [h]; exact ⟨by decide, by decide⟩)
theorem wN_sm {p : Str × Int} (h : Word p.1) (k : -1 ≤ p.2 ∧ p.2 ≤ 6) : Sm 9 (wN p) := (h.sm.app (b := 1) ⟨by decide, by decide⟩).app (mk_sm k)
theorem inn_sm {many : Nat} {p : Str × List Int} (h : Item many p) (k : ∀ t ∈ p.2, -1 ≤ t ∧ t ≤ 6) : Sm 6 (inn p) := by
  have := Sm.join (b := 2) (k := 1) (y := ",") (ps := p.2.map mk) ⟨by decide, by decide⟩ fun z hz => by
    obtain ⟨t, ht, rfl⟩ := List.mem_map.mp hz
    exact mk_sm (k t ht)
  refine this.le ?_
  rw [List.length_map]
  have := h.small
  omega
theorem wI_sm {many : Nat} {j : Int} {p : Str × List Int} (hj : 0 ≤ j ∧ j ≤ 7) (h : Item many p) (k : ∀ t ∈ p.2, -1 ≤ t ∧ t ≤ 6) : Sm 15 (wI j p) :=
  ((((((sm_str hj).app (b := 1) ⟨by decide, by decide⟩).app h.sm).app (b := 1) ⟨by decide, by decide⟩).app (inn_sm h k)).app (b := 1) ⟨by decide, by decide⟩).le (by omega)
def words (ld : Nms) (it : Its) : List Str := ld.map wN ++ wIs 1 it
def txt (ld : Nms) (it : Its) : Str := if words ld it = [] then "empty" else Txt.join " " (words ld it)
theorem words_sm {ld : Nms} {it : Its} (h : Raw ld it) : (∀ w ∈ words ld it, Sm 15 w) ∧ (words ld it).length ≤ 12 := by
  refine ⟨fun w hw => ?_, ?_⟩
  · rcases List.mem_append.mp hw with hw | hw
    · obtain ⟨p, hp, rfl⟩ := List.mem_map.mp hw
      exact (wN_sm (h.hw p hp) (h.t6 hp)).le (by omega)
    · obtain ⟨i, hi⟩ := List.getElem?_of_mem hw
      have hl : i < it.length := by rw [← wIs_len it 1]; exact (List.getElem?_eq_some_iff.mp hi).1
      rw [wIs_at (List.getElem?_eq_getElem hl)] at hi
      cases hi
      have := h.fit.i6
      exact wI_sm (by omega) (h.hi _ (List.getElem_mem hl)) (h.i6 (List.getElem_mem hl))
  · unfold words
    rw [List.length_append, List.length_map, wIs_len]
    have := h.fit.n6
    have := h.fit.i6
    omega
theorem txt_sm {ld : Nms} {it : Its} (h : Raw ld it) : Sm 192 (txt ld it) := by
  obtain ⟨h1, h2⟩ := words_sm h
  unfold txt
  split
  · exact ⟨by decide, by decide⟩
  · refine (Sm.join (b := 15) (k := 1) (y := " ") ⟨by decide, by decide⟩ h1).le ?_
    exact Nat.mul_le_mul_right 16 h2
theorem empty_app (z : Str) : Str.empty ++ z = z := by
  show (⟨#[] ++ z.cps⟩ : Str) = z
  simp
theorem sl {n : Nat} {z : Str} (h : Sm n z) (hn : n ≤ 1000) : z.length ≤ sizeLine := Nat.le_trans h.1 (Nat.le_trans hn (by decide))
theorem fs_str {xs : List Vl} {acc z : Str} {a b : Nat} (ha : Sm a acc) (hz : Sm b z) (hb : a + b ≤ 1000) : fsop (.str z :: xs) acc = fsop xs (acc ++ z) := by
  simp only [fsop, fsPart]
  rw [if_pos (sl hz (by omega))]
  simp only
  rw [if_pos (sl (ha.app hz) hb)]
theorem fs_int {xs : List Vl} {acc : Str} {t : Int} {a : Nat} (ha : Sm a acc) (ht : 0 ≤ t ∧ t ≤ 7) (hb : a + 2 ≤ 1000) : fsop (.int t :: xs) acc = fsop xs (acc ++ ((toString t : String) : Str)) := by
  have : t.natAbs < 10 ^ 6 := by omega
  have := log_small this
  simp only [fsop, fsPart]
  rw [if_pos (by omega)]
  simp only
  rw [if_pos (sl (ha.app (sm_str ht)) hb)]
theorem items_ld : ∀ ld : Nms, itemsL (ld.map fun p => (Sum.inr p.1 : Key)) (ld.map fun p => Vl.int p.2) = valN ld
  | [] => rfl
  | p :: ld => by simp only [List.map_cons, itemsL, items_ld ld, valN]
theorem sm_e : Sm 0 Str.empty := ⟨by decide, by decide⟩
theorem e_names (n : Nat) {ld : Nms} (hw : ∀ p ∈ ld, Word p.1) (ht : ∀ p ∈ ld, -1 ≤ p.2 ∧ p.2 ≤ 6) (hl : ld.length ≤ 1000) {b c d e f g h i : Option Vl} {S : Hs} (hS : NR S) : evf (Mn (n + 1)) q1_web_text [some (.dct (ld.map fun p => Sum.inr p.1) (ld.map fun p => .int p.2)), b, c, d, e, f, g, h, i] S = .ok (.lst ((ld.map wN).map .str)) S := by
  unfold q1_web_text
  have e0 : (ld.map wN).map Vl.str = (itemsL (ld.map fun p => (Sum.inr p.1 : Key)) (ld.map fun p => Vl.int p.2)).map fun v => match v with | .tup [.str z, .int t] => .str (wN (z, t)) | _ => .non := by
    rw [items_ld]
    unfold valN
    rw [List.map_map, List.map_map]
    rfl
  rw [e0]
  refine ev_icomp _ rfl (by rw [List.length_map]; omega) (fun x hx => ?_) fun x hx acc ha => ?_
  · rw [items_ld] at hx
    obtain ⟨p, _, rfl⟩ := List.mem_map.mp hx
    simp only [Vl.nr]
  · rw [items_ld] at hx
    obtain ⟨p, hp, rfl⟩ := List.mem_map.mp hx
    refine ⟨_, rfl, v_fs (xs := [.str p.1, .str "=", .str (mk p.2)]) (vs_cons (v_var rfl) (vs_cons v_cst (vs_cons (v_call (r := .val (.str (mk p.2))) (vs_cons (v_var rfl) vs_nil) (r_mark n (ht p hp) (hS.one (by simpa only [Ob.nr] using ha)))) vs_nil))) ?_⟩
    rw [fs_str sm_e (hw p hp).sm (by omega), empty_app, fs_str (hw p hp).sm (b := 1) ⟨by decide, by decide⟩ (by omega), fs_str ((hw p hp).sm.app (b := 1) ⟨by decide, by decide⟩) (mk_sm (ht p hp)) (by omega)]
    rfl
theorem walk_ints (S : Hs) (ts : List Int) : walkS S (.tup (ts.map .int)) = some ([], ts.map .int) := rfl
theorem r_web_text (n : Nat) {ld : Nms} {it : Its} (h : Raw ld it) {S : Hs} (hS : NR S) : (Mn (n + 2)).cal "web_text" [.dct (ld.map fun p => Sum.inr p.1) (ld.map fun p => .int p.2), .lst (valI it)] S = .ok (.val (.str (txt ld it))) S := by
  rw [u_web_text]
  obtain ⟨ws1, ws2⟩ := words_sm h
  have loop : ∃ a5 a6 a7 a8, forL (fun η1 S2 => exec (Mn (n + 1)) w3_web_text η1 S2) (.tp (.cons (.nm 5) (.cons (.tp (.cons (.nm 6) (.cons (.nm 7) .nil))) .nil))) [] (enumL 1 (valI it)) [some (.dct (ld.map fun p => Sum.inr p.1) (ld.map fun p => .int p.2)), some (.lst (valI it)), some (.ref S.length), none, none, none, none, none, none] (S ++ [.lst ((ld.map wN).map .str)])
      = .nx [some (.dct (ld.map fun p => Sum.inr p.1) (ld.map fun p => .int p.2)), some (.lst (valI it)), some (.ref S.length), none, none, a5, a6, a7, a8] (S ++ [.lst ((words ld it).map .str)]) := by
    obtain ⟨η', S', h1, a5, a6, a7, a8, e1, e2⟩ := for_ok (body := fun η1 S2 => exec (Mn (n + 1)) w3_web_text η1 S2) (t := .tp (.cons (.nm 5) (.cons (.tp (.cons (.nm 6) (.cons (.nm 7) .nil))) .nil))) (lk := []) (xs := enumL 1 (valI it)) (η := [some (.dct (ld.map fun p => Sum.inr p.1) (ld.map fun p => .int p.2)), some (.lst (valI it)), some (.ref S.length), none, none, none, none, none, none]) (S := S ++ [.lst ((ld.map wN).map .str)])
      (fun i η S' => ∃ a5 a6 a7 a8, η = [some (.dct (ld.map fun p => Sum.inr p.1) (ld.map fun p => .int p.2)), some (.lst (valI it)), some (.ref S.length), none, none, a5, a6, a7, a8] ∧ S' = S ++ [.lst ((ld.map wN ++ (wIs 1 it).take i).map .str)])
      ⟨none, none, none, none, rfl, by simp⟩ (fun i η S' _ => lock_nil _) fun i x η S' hx ⟨a5, a6, a7, a8, e1, e2⟩ => by
        subst e1 e2
        obtain ⟨v, hv, rfl⟩ := enumL_at hx
        obtain ⟨p, hp, rfl⟩ := valI_at hv
        have hpm := List.mem_of_getElem? hp
        have hpt := h.i6 hpm
        have hI := h.hi p hpm
        have hil : i < it.length := (List.getElem?_eq_some_iff.mp hp).1
        have h6 := h.fit.i6
        have h6n := h.fit.n6
        have hS1 : NR (S ++ [.lst ((ld.map wN ++ (wIs 1 it).take i).map .str)]) := hS.one (by simp only [Ob.nr, nrs_map_str])
        have hj : (0 : Int) ≤ 1 + (i : Nat) ∧ (1 : Int) + (i : Nat) ≤ 7 := by omega
        have hq : evf (Mn (n + 1)) q2_web_text [some (.dct (ld.map fun p => Sum.inr p.1) (ld.map fun p => .int p.2)), some (.lst (valI it)), some (.ref S.length), none, none, some (.int (1 + (i : Nat))), some (.str p.1), some (.tup (p.2.map .int)), a8] (S ++ [.lst ((ld.map wN ++ (wIs 1 it).take i).map .str)]) = .ok (.lst ((p.2.map mk).map .str)) (S ++ [.lst ((ld.map wN ++ (wIs 1 it).take i).map .str)]) := by
          unfold q2_web_text
          have e0 : (p.2.map mk).map Vl.str = (p.2.map Vl.int).map fun v => match v with | .int t => .str (mk t) | _ => .non := by
            rw [List.map_map, List.map_map]; rfl
          rw [e0]
          refine ev_compM [] (p.2.map .int) _ (ev_sq (v_var rfl) rfl) (lock_nil _) (by rw [List.length_map]; have := hI.small; omega) (fun x hx => by
            obtain ⟨t, _, rfl⟩ := List.mem_map.mp hx
            simp only [Vl.nr]) fun x hx acc ha => ?_
          obtain ⟨t, ht, rfl⟩ := List.mem_map.mp hx
          exact ⟨_, rfl, v_call (r := .val (.str (mk t))) (vs_cons (v_var rfl) vs_nil) (r_mark n (hpt t ht) (hS1.one (by simpa only [Ob.nr] using ha)))⟩
        have hjn : tmop .join (S ++ [.lst ((ld.map wN ++ (wIs 1 it).take i).map .str)]) "," (.lst ((p.2.map mk).map .str)) = some (.str (inn p)) := small_join (b := 2) (k := 1) rfl ⟨by decide, by decide⟩ (fun z hz => by
          obtain ⟨t, ht, rfl⟩ := List.mem_map.mp hz
          exact mk_sm (hpt t ht)) (by rw [List.length_map]; have := hI.small; omega)
        have hin := inn_sm hI hpt
        refine ⟨_, rfl, _, _, .inl (ex_nx (x_asg _ _ (v_join v_cst (v_inl hq) hjn) rfl) (ex_nx (x_ex _ _ (v_mut (k := S.length) (ys := (ld.map wN ++ (wIs 1 it).take i).map .str) (v_var rfl) (lstAt_last _ _) (vs_cons (v_fs (xs := [.int (1 + (i : Nat)), .str ":", .str p.1, .str "(", .str (inn p), .str ")"]) (out := wI (1 + (i : Nat)) p) (vs_cons (v_var rfl) (vs_cons v_cst (vs_cons (v_var rfl) (vs_cons v_cst (vs_cons (v_var rfl) (vs_cons v_cst vs_nil)))))) ?_) vs_nil) List.getElem?_concat_length (mut_app ?_))) ex_nil)), _, _, _, _, rfl, ?_⟩
        · have c1 : Sm 1 (":" : Str) := ⟨by decide, by decide⟩
          have c2 : Sm 1 ("(" : Str) := ⟨by decide, by decide⟩
          have c3 : Sm 1 (")" : Str) := ⟨by decide, by decide⟩
          have k0 := sm_str hj
          have k1 := k0.app c1
          have k2 := k1.app hI.sm
          have k3 := k2.app c2
          have k4 := k3.app hin
          rw [fs_int sm_e hj (by omega), empty_app, fs_str k0 c1 (by omega), fs_str k1 hI.sm (by omega), fs_str k2 c2 (by omega), fs_str k3 hin (by omega), fs_str k4 c3 (by omega)]
          rfl
        · rw [List.length_map, List.length_append, List.length_map, List.length_take, wIs_len]; omega
        · rw [set_last, take_succ_at (wIs_at hp)]
          simp
    subst e1
    rw [enumL_len, valI_len, List.take_of_length_le (by rw [wIs_len]; exact Nat.le_refl _)] at e2
    subst e2
    exact ⟨a5, a6, a7, a8, h1⟩
  obtain ⟨a5, a6, a7, a8, hloop⟩ := loop
  refine cal_val (T := [.lst ((words ld it).map .str)]) rfl ?_ hS (by simp only [Vl.nr])
  show exec (Mn (n + 1)) b_web_text [some (.dct (ld.map fun p => Sum.inr p.1) (ld.map fun p => .int p.2)), some (.lst (valI it)), none, none, none, none, none, none, none] S = _
  have hlen : b1op .len (S ++ [.lst ((words ld it).map .str)]) (.ref S.length) = some (.int (words ld it).length) := by
    simp only [b1op, dctOf, seqOf, List.getElem?_concat_length, Option.map_some, List.length_map]
  refine ex_nx (x_asg _ _ (v_alc (e_names n h.hw (fun p hp => h.t6 hp) (by have := h.fit.n6; omega) hS)) rfl) (ex_nx (x_for _ _ _ (ev_enm (v_var rfl) rfl) hloop) (ex_ret (x_ret _ _ ?_)))
  unfold txt
  by_cases c : words ld it = []
  · rw [if_pos c]
    exact v_ite0 (v_cmp (v_b1 (v_var rfl) hlen) v_cst (by rw [c]; rfl)) v_cst
  · rw [if_neg c]
    have hp : 0 < (words ld it).length := List.length_pos_iff.mpr c
    refine v_ite1 (v_cmp (v_b1 (v_var rfl) hlen) v_cst (congrArg some (decide_eq_true (by omega)))) (v_join v_cst (v_var rfl) (small_join (b := 15) (k := 1) (by simp only [seqOf, List.getElem?_concat_length]) ⟨by decide, by decide⟩ ws1 (by omega)))
end K03
set_option Elab.async false
set_option linter.all false
set_option maxRecDepth 100000
set_option maxHeartbeats 4000000
namespace K03
open PySem L2 Oz

def web (ld : Nms) (it : Its) : Vl := (webO ld it).inl
def rv (ld : Nms) (it : Its) : Vl := .tup [.lst (valN ld), .lst (valI it)]
theorem web_nr (ld : Nms) (it : Its) : (web ld it).nr = true := by simp only [web, webO, Ob.inl, Vl.nr, nrs, nrs_ints, valI_nr, Bool.and_self]
theorem rv_nr (ld : Nms) (it : Its) : (rv ld it).nr = true := by simp only [rv, Vl.nr, nrs, valN_nr, valI_nr, Bool.and_self]
/-! ### data -/
def dI (p : Str × List Int) : PyData := .tuple [.str p.1, .tuple (p.2.map .int)]
def dN (p : Str × Int) : PyData := .tuple [.str p.1, .int p.2]
theorem ints_D : ∀ ts : List Int, toDs (ts.map Vl.int) = some (ts.map PyData.int)
  | [] => rfl
  | t :: ts => by simp only [List.map_cons, toDs, Vl.toD, ints_D ts]
theorem valI_D : ∀ it : Its, toDs (valI it) = some (it.map dI)
  | [] => rfl
  | p :: it => by
    have ih := valI_D it
    unfold valI at ih ⊢
    simp only [List.map_cons, toDs, Vl.toD, ints_D, ih, Option.map_some, dI]
theorem valN_D : ∀ ld : Nms, toDs (valN ld) = some (ld.map dN)
  | [] => rfl
  | p :: ld => by
    have ih := valN_D ld
    unfold valN at ih ⊢
    simp only [List.map_cons, toDs, Vl.toD, ih, Option.map_some, dN]
theorem beq_dec {α : Type} [BEq α] [LawfulBEq α] [DecidableEq α] (a b : α) : (a == b) = decide (a = b) := by
  by_cases c : a = b
  · rw [decide_eq_true c]; exact beq_iff_eq.mpr c
  · rw [decide_eq_false c]; exact beq_eq_false_iff_ne.mpr c
theorem eqv_ints : ∀ ts us : List Int, PyData.eqvAll (ts.map .int) (us.map .int) = decide (ts = us)
  | [], [] => rfl
  | [], _ :: _ => by simp [PyData.eqvAll]
  | _ :: _, [] => by simp [PyData.eqvAll]
  | t :: ts, u :: us => by
    simp only [List.map_cons, PyData.eqvAll, PyData.eqv, eqv_ints ts us]
    by_cases c : t = u
    · subst c; simp
    · simp [c]
theorem eqv_I : ∀ it jt : Its, PyData.eqvAll (it.map dI) (jt.map dI) = decide (it = jt)
  | [], [] => rfl
  | [], _ :: _ => by simp [PyData.eqvAll]
  | _ :: _, [] => by simp [PyData.eqvAll]
  | (a, ts) :: it, (b, us) :: jt => by
    simp only [List.map_cons, dI, PyData.eqvAll, PyData.eqv, eqv_ints, eqv_I it jt, Bool.and_true]
    by_cases c : a = b
    · subst c
      by_cases d : ts = us
      · subst d; simp
      · simp [d]
    · simp [c]
theorem eqv_N : ∀ ld jd : Nms, PyData.eqvAll (ld.map dN) (jd.map dN) = decide (ld = jd)
  | [], [] => rfl
  | [], _ :: _ => by simp [PyData.eqvAll]
  | _ :: _, [] => by simp [PyData.eqvAll]
  | (a, t) :: ld, (b, u) :: jd => by
    simp only [List.map_cons, dN, PyData.eqvAll, PyData.eqv, eqv_N ld jd, Bool.and_true]
    by_cases c : a = b
    · subst c
      by_cases d : t = u
      · subst d; simp
      · simp [d]
    · simp [c]
theorem ok_of {z : Str} (h : ∀ c ∈ z.cps.toList, c < 0x110000) : PyData.strOk z = true := by
  unfold PyData.strOk
  rw [← Array.all_toList]
  exact List.all_eq_true.mpr fun c hc => decide_eq_true (h c hc)
theorem ints_pd {ts : List Int} (h : ∀ t ∈ ts, -1 ≤ t ∧ t ≤ 6) : pds (ts.map Vl.int) = true := pds_of fun x hx => by
  obtain ⟨t, ht, rfl⟩ := List.mem_map.mp hx
  have := h t ht
  simp only [Vl.pd]; exact decide_eq_true (by omega)
theorem valI_pd {ld : Nms} {it : Its} (h : Raw ld it) : pds (valI it) = true := pds_of fun x hx => by
  obtain ⟨p, hp, rfl⟩ := List.mem_map.mp hx
  simp only [Vl.pd, pds, ok_of (h.hi p hp).sm.2, ints_pd (h.i6 hp), Bool.and_self]
theorem valN_pd {ld : Nms} {it : Its} (h : Raw ld it) : pds (valN ld) = true := pds_of fun x hx => by
  obtain ⟨p, hp, rfl⟩ := List.mem_map.mp hx
  have := h.t6 hp
  simp only [Vl.pd, pds, ok_of (h.hw p hp).sm.2, Bool.and_true, Bool.true_and]
  exact decide_eq_true (by omega)
theorem ints_dep (ts : List Int) : deps (ts.map Vl.int) ≤ 0 := deps_of fun x hx => by
  obtain ⟨t, _, rfl⟩ := List.mem_map.mp hx
  simp only [Vl.dep]; omega
theorem valI_dep (it : Its) : deps (valI it) ≤ 2 := deps_of fun x hx => by
  obtain ⟨p, _, rfl⟩ := List.mem_map.mp hx
  have := ints_dep p.2
  simp only [Vl.dep, deps]; omega
theorem valN_dep (ld : Nms) : deps (valN ld) ≤ 1 := deps_of fun x hx => by
  obtain ⟨p, _, rfl⟩ := List.mem_map.mp hx
  simp only [Vl.dep, deps]; omega
theorem eq_spots {ld ld2 : Nms} {it it2 : Its} (h : Raw ld it) (k : Raw ld2 it2) (S : Hs) : cmpop .Eq S (.lst (valI it)) (.lst (valI it2)) = some (decide (it = it2)) := by
  simp only [cmpop]
  have p1 : (Vl.lst (valI it)).pd = true := by simp only [Vl.pd]; exact valI_pd h
  have p2 : (Vl.lst (valI it2)).pd = true := by simp only [Vl.pd]; exact valI_pd k
  obtain ⟨d1, e1, k1⟩ := dataOf_pd S p1
  obtain ⟨d2, e2, k2⟩ := dataOf_pd S p2
  have dp1 : (Vl.lst (valI it)).dep ≤ 60 := by simp only [Vl.dep]; have := valI_dep it; omega
  have dp2 : (Vl.lst (valI it2)).dep ≤ 60 := by simp only [Vl.dep]; have := valI_dep it2; omega
  have f1 : d1 = .list (it.map dI) := by
    unfold dataOf at e1
    rw [inlS_nr _ _ (pd_nr _ p1)] at e1
    simp only [Vl.toD, valI_D, Option.map_some] at e1
    exact (Option.some.inj e1).symm
  have f2 : d2 = .list (it2.map dI) := by
    unfold dataOf at e2
    rw [inlS_nr _ _ (pd_nr _ p2)] at e2
    simp only [Vl.toD, valI_D, Option.map_some] at e2
    exact (Option.some.inj e2).symm
  unfold eqop
  simp only [eqS]
  rw [eqDct_l _ (dctOf_pd S p1)]
  simp only
  unfold dataEq
  rw [e1, e2]
  simp only
  rw [if_pos ⟨k1.shaped dp1, k2.shaped dp2⟩, f1, f2]
  simp only [PyData.eqv, eqv_I]
theorem rv_pd {ld : Nms} {it : Its} (h : Raw ld it) : (rv ld it).pd = true := by
  simp only [rv, Vl.pd, pds, valN_pd h, valI_pd h, Bool.and_self]
theorem eq_raw {ld ld2 : Nms} {it it2 : Its} (h : Raw ld it) (k : Raw ld2 it2) (S : Hs) : cmpop .Eq S (rv ld it) (rv ld2 it2) = some (decide (ld = ld2) && decide (it = it2)) := by
  simp only [cmpop]
  have p1 := rv_pd h
  have p2 := rv_pd k
  obtain ⟨d1, e1, k1⟩ := dataOf_pd S p1
  obtain ⟨d2, e2, k2⟩ := dataOf_pd S p2
  have dep : ∀ ld it, (rv ld it).dep ≤ 60 := fun ld it => by
    have := valI_dep it
    have := valN_dep ld
    simp only [rv, Vl.dep, deps]; omega
  have f : ∀ (ld : Nms) (it : Its) (d : PyData), (rv ld it).pd = true → dataOf S (rv ld it) = some d → d = .tuple [.list (ld.map dN), .list (it.map dI)] := fun ld it d p e => by
    unfold dataOf at e
    rw [inlS_nr _ _ (pd_nr _ p)] at e
    simp only [rv, Vl.toD, toDs, valI_D, valN_D, Option.map_some] at e
    exact (Option.some.inj e).symm
  have f1 := f _ _ _ p1 e1
  have f2 := f _ _ _ p2 e2
  unfold eqop
  have es : eqS (rv ld it) (rv ld2 it2) = none := rfl
  rw [es]
  simp only
  rw [eqDct_l _ (dctOf_pd S p1)]
  simp only
  unfold dataEq
  rw [e1, e2]
  simp only
  rw [if_pos ⟨k1.shaped (dep _ _), k2.shaped (dep _ _)⟩, f1, f2]
  simp only [PyData.eqv, PyData.eqvAll, eqv_I, eqv_N, Bool.and_true]
/-! ### dicts of names -/
def lk : Nms → Str → Option Int
  | [], _ => none
  | p :: l, z => if p.1 = z then some p.2 else lk l z
theorem look_ld (z : Str) : ∀ ld : Nms, lookG (ld.map fun p => (Sum.inr p.1 : Key)) (ld.map fun p => Vl.int p.2) (Sum.inr z) = (lk ld z).map Vl.int
  | [] => rfl
  | p :: ld => by
    simp only [List.map_cons, lookG, lk]
    by_cases c : p.1 = z
    · rw [if_pos (by rw [c]), if_pos c]; rfl
    · rw [if_neg (fun q => c (Sum.inr.inj q)), if_neg c, look_ld z ld]
theorem hits_ld (S : Hs) (ld2 : Nms) : ∀ ld : Nms, hitsD S (ld.map fun p => (Sum.inr p.1 : Key)) (ld.map fun p => Vl.int p.2) (ld2.map fun p => (Sum.inr p.1 : Key)) (ld2.map fun p => Vl.int p.2) = some (ld.all fun p => decide (lk ld2 p.1 = some p.2))
  | [] => rfl
  | p :: ld => by
    simp only [List.map_cons, hitsD, List.all_cons]
    rw [look_ld]
    cases e : lk ld2 p.1 with
    | none => simp
    | some y =>
      simp only [Option.map_some, eqS, hits_ld S ld2 ld]
      congr 2
      by_cases c : p.2 = y
      · subst c; simp
      · simp [c, Ne.symm c]
theorem lk_mem {z : Str} {t : Int} : ∀ {ld : Nms}, lk ld z = some t → (z, t) ∈ ld
  | [], h => by simp [lk] at h
  | p :: ld, h => by
    simp only [lk] at h
    split at h
    · rename_i c
      cases h
      subst c
      exact List.mem_cons_self
    · exact List.mem_cons_of_mem _ (lk_mem h)
theorem lk_of {p : Str × Int} : ∀ {ld : Nms}, (ld.map (·.1)).Nodup → p ∈ ld → lk ld p.1 = some p.2
  | [], _, h => by cases h
  | q :: ld, nd, h => by
    simp only [List.map_cons, List.nodup_cons] at nd
    simp only [lk]
    rcases List.mem_cons.mp h with e | h
    · subst e; rw [if_pos rfl]
    · rw [if_neg fun e => nd.1 (by rw [e]; exact List.mem_map.mpr ⟨p, h, rfl⟩)]
      exact lk_of nd.2 h
theorem perm_of {α : Type} [DecidableEq α] : ∀ {xs ys : List α}, xs.Nodup → (∀ x ∈ xs, x ∈ ys) → ys.length ≤ xs.length → xs.Perm ys
  | [], ys, _, _, h => by
    have : ys = [] := List.eq_nil_of_length_eq_zero (by simpa using h)
    rw [this]
  | x :: xs, ys, nd, hm, h => by
    obtain ⟨n1, n2⟩ := List.nodup_cons.mp nd
    have hx := hm x List.mem_cons_self
    have p := List.perm_cons_erase hx
    refine (List.Perm.cons x (perm_of n2 (fun y hy => (List.mem_erase_of_ne (fun e : y = x => n1 (e ▸ hy))).mpr (hm y (List.mem_cons_of_mem _ hy))) ?_)).trans p.symm
    rw [List.length_erase_of_mem hx]
    simp only [List.length_cons] at h
    omega
theorem nd_pairs {ld : Nms} (h : (ld.map (·.1)).Nodup) : ld.Nodup := by
  unfold List.Nodup at h ⊢
  rw [List.pairwise_map] at h
  exact h.imp fun ne e => ne (by rw [e])
theorem eq_leads {ld ld2 : Nms} (n1 : (ld.map (·.1)).Nodup) (n2 : (ld2.map (·.1)).Nodup) (s1 : sortN ld = ld) (s2 : sortN ld2 = ld2) (S : Hs) : cmpop .Eq S (.dct (ld.map fun p => Sum.inr p.1) (ld.map fun p => .int p.2)) (.dct (ld2.map fun p => Sum.inr p.1) (ld2.map fun p => .int p.2)) = some (decide (ld = ld2)) := by
  simp only [cmpop]
  unfold eqop
  simp only [eqS]
  unfold eqDct
  simp only [dctOf, List.length_map]
  by_cases hl : ld.length = ld2.length
  · rw [if_pos hl, hits_ld]
    simp only
    congr 1
    by_cases c : ld = ld2
    · subst c
      rw [decide_eq_true rfl, List.all_eq_true]
      exact fun p hp => decide_eq_true (lk_of n1 hp)
    · rw [decide_eq_false c, ← Bool.not_eq_true, List.all_eq_true]
      intro h
      refine c ?_
      have hp : ld.Perm ld2 := perm_of (nd_pairs n1) (fun p hp => lk_mem (of_decide_eq_true (h p hp))) (by omega)
      rw [← s1, ← s2]
      unfold sortN
      exact sortBy_uniq n2 ((sortBy_perm _ ld).trans hp) (sortBy_pw _ ld)
  · rw [if_neg hl]
    simp only
    rw [decide_eq_false fun e => hl (by rw [e])]
/-! ### a web's methods -/
section
variable {ld ld2 : Nms} {it it2 : Its} {S : Hs}
theorem ins_web (S : Hs) : insOf S (web ld it) = some (("Web" : Str), (["leads", "spots"] : List Str), [Vl.dct (ld.map fun p => Sum.inr p.1) (ld.map fun p => .int p.2), Vl.lst (valI it)]) := rfl
theorem f_leads {u v : Vl} : lookG (["leads", "spots"] : List Str) [u, v] "leads" = some u := by
  simp only [lookG]; rw [if_pos (by decide)]
theorem f_spots {u v : Vl} : lookG (["leads", "spots"] : List Str) [u, v] "spots" = some v := by
  simp only [lookG]; rw [if_neg (by decide), if_pos (by decide)]
theorem has_web {m : Str} (hm : ((["leads", "spots"] : List Str).contains m) = false) : Oz.hasM S (web ld it) "Web" m = true := by
  unfold Oz.hasM
  rw [ins_web]
  simp only [hm, decide_true]; rfl
theorem r_wlen (n : Nat) (hS : NR S) : (Mn (n + 1)).cal (dot "Web" "__len__") [web ld it] S = .ok (.val (.int it.length)) S := by
  rw [u_Webu_lenu]
  refine cal_val (T := []) rfl ?_ hS (by simp only [Vl.nr])
  show exec (Mn n) b_Webu_lenu [some (web ld it)] S = _
  rw [List.append_nil]
  exact ex_ret (x_ret _ _ (v_b1 (v_fld (v_var rfl) (ins_web S) f_spots) (by rw [len_lst, valI_len])))
theorem r_wrepr (n : Nat) (h : Raw ld it) (hS : NR S) : (Mn (n + 3)).cal (dot "Web" "__repr__") [web ld it] S = .ok (.val (.str (txt ld it))) S := by
  rw [u_Webu_repru]
  refine cal_val (T := []) rfl ?_ hS (by simp only [Vl.nr])
  show exec (Mn (n + 2)) b_Webu_repru [some (web ld it)] S = _
  rw [List.append_nil]
  exact ex_ret (x_ret _ _ (v_b1 (v_call (r := .val (.str (txt ld it))) (vs_cons (v_fld (v_var rfl) (ins_web S) f_leads) (vs_cons (v_fld (v_var rfl) (ins_web S) f_spots) vs_nil)) (r_web_text n h hS)) rfl))
theorem r_weq (n : Nat) (h : Raw ld it) (k : Raw ld2 it2) (s1 : sortN ld = ld) (s2 : sortN ld2 = ld2) (hS : NR S) : (Mn (n + 1)).cal (dot "Web" "__eq__") [web ld it, web ld2 it2] S = .ok (.val (.bl (decide (ld = ld2) && decide (it = it2)))) S := by
  rw [u_Webu_equ]
  refine cal_val (T := []) rfl ?_ hS (by simp only [Vl.nr])
  show exec (Mn n) b_Webu_equ [some (web ld it), some (web ld2 it2)] S = _
  rw [List.append_nil]
  have e1 := v_cmp (M := Mn n) (η := [some (web ld it), some (web ld2 it2)]) (S := S) (v_fld (v_var (i := 0) rfl) (ins_web S) f_leads) (v_fld (v_var (i := 1) rfl) (ins_web S) f_leads) (eq_leads h.fit.nd k.fit.nd s1 s2 S)
  have e2 := v_cmp (M := Mn n) (η := [some (web ld it), some (web ld2 it2)]) (S := S) (v_fld (v_var (i := 0) rfl) (ins_web S) f_spots) (v_fld (v_var (i := 1) rfl) (ins_web S) f_spots) (eq_spots h k S)
  refine ex_ret (x_ret _ _ (v_and1 (v_isC1 (v_var rfl) (ins_web S)) ?_))
  by_cases c : ld = ld2
  · rw [decide_eq_true c] at e1 ⊢
    rw [Bool.true_and]
    exact v_and1 e1 e2
  · rw [decide_eq_false c] at e1 ⊢
    rw [Bool.false_and]
    exact v_and0 e1
theorem r_weq_no (n : Nat) {y : Vl} (hy : insOf S y = none) (hS : NR S) : (Mn (n + 1)).cal (dot "Web" "__eq__") [web ld it, y] S = .ok (.val (.bl false)) S := by
  rw [u_Webu_equ]
  refine cal_val (T := []) rfl ?_ hS (by simp only [Vl.nr])
  show exec (Mn n) b_Webu_equ [some (web ld it), some y] S = _
  rw [List.append_nil]
  exact ex_ret (x_ret _ _ (v_and0 (v_isC (v_var rfl) hy)))
theorem allB_dec {α : Type} (f : α → Bool) : ∀ xs : List α, allB (xs.map fun x => Vl.bl (f x)) = some (xs.map f)
  | [] => rfl
  | x :: xs => by simp only [List.map_cons, allB, isBl, allB_dec f xs]
theorem r_heap (n : Nat) (hl : it.length ≤ 1000) (hS : NR S) : (Mn (n + 1)).cal (dot "Web" "is_heap") [web ld it] S = .ok (.val (.bl (it.all fun p => decide (p.1 = ("cell" : Str))))) S := by
  rw [u_Web_is_heap]
  refine cal_val (T := []) rfl ?_ hS (by simp only [Vl.nr])
  show exec (Mn n) b_Web_is_heap [some (web ld it), none, none] S = _
  rw [List.append_nil]
  have hq : evf (Mn n) q1_Web_is_heap [some (web ld it), none, none] S = .ok (.lst (it.map fun p => .bl (decide (p.1 = ("cell" : Str))))) S := by
    unfold q1_Web_is_heap
    have e0 : (it.map fun p => Vl.bl (decide (p.1 = ("cell" : Str)))) = (valI it).map fun v => match v with | .tup [.str z, _] => .bl (decide (z = ("cell" : Str))) | _ => .non := by
      unfold valI
      rw [List.map_map]; rfl
    rw [e0]
    refine ev_compM [] (valI it) _ (ev_sq (v_fld (v_var rfl) (ins_web S) f_spots) rfl) (lock_nil S) (by rw [valI_len]; omega) (fun x hx => by
      obtain ⟨p, _, rfl⟩ := List.mem_map.mp hx
      simp only [Vl.nr]) fun x hx acc _ => ?_
    obtain ⟨p, _, rfl⟩ := List.mem_map.mp hx
    exact ⟨_, rfl, v_cmp (v_var rfl) v_cst rfl⟩
  refine ex_ret (x_ret _ _ (v_b1 (v_inl hq) ?_))
  simp only [Ob.inl, b1op, lstOf, Option.bind_some, allB_dec, Option.map_some]
  congr 2
  rw [List.all_map]; rfl
end
/-! ### made, told again, alike -/
theorem r_made (n : Nat) {nm : Nms} {it : Its} (h : Raw nm it) (hfull : (ord nm it).length = it.length) {S : Hs} (hS : NR S) : (Mn (n + 4)).cal "_law_made" [rv nm it] S = .ok (.frs (webO (canN nm it) (canI nm it))) S := by
  rw [u__law_made]
  refine cal_frs (T := []) rfl ?_ hS (webO_nr _ _)
  show exec (Mn (n + 3)) b__law_made [some (rv nm it)] S = _
  rw [List.append_nil]
  exact ex_ret (x_retf _ _ (f_new (vs_cons (v_inl (f_cpy (v_idx (v_var rfl) v_cst (ix_tup (i := 0) rfl)) rfl)) (vs_cons (v_inl (f_cpy (v_idx (v_var rfl) v_cst (ix_tup (i := 1) rfl)) rfl)) vs_nil)) hS (r_init n h.fit h.hw h.hi hfull (sq_lst _) (sq_lst _) hS) (webO_nr _ _)))
theorem r_same (n : Nat) {x : Vl} (h : x.pd = true) (hd : x.dep ≤ 60) (hw : x.wt ≤ 2 ^ 20) {S : Hs} (hS : NR S) : (Mn (n + 1)).cal "_law_same" [x, x] S = .ok (.val (.bl true)) S := by
  rw [u__law_same]
  refine cal_val (T := []) rfl ?_ hS (by simp only [Vl.nr])
  show exec (Mn n) b__law_same [some x, some x] S = _
  obtain ⟨z, hz⟩ := repr_ok S h hd hw
  rw [List.append_nil]
  unfold b__law_same
  refine ex_nx (x_ite0 S (v_isD (v_var rfl) (dctOf_pd S h)) ex_nil) ?_
  exact ex_ret (x_ret _ _ (v_and1 (v_cmp (v_var rfl) (v_var rfl) (show cmpop .Eq S _ _ = some true from eqop_self S h hd)) (v_cmp (d := true) (v_b1 (v_var rfl) hz) (v_b1 (v_var rfl) hz) (by simp only [cmpop, eqop, eqS, decide_true]))))
end K03
set_option Elab.async false
set_option linter.all false
set_option maxRecDepth 100000
set_option maxHeartbeats 4000000
namespace K03
open PySem L2 Oz

/-! ### the form of webs: told once more, it stays -/
structure Can (ld : Nms) (it : Its) : Prop where
  raw : Raw ld it
  srt : sortN ld = ld
  full : ord ld it = rngI it.length
theorem anew_le {o : List Int} {t : Int} (h : -1 ≤ t) (k : 0 < t → t ∈ o) : -1 ≤ anew o t ∧ anew o t ≤ o.length := by
  unfold anew
  split
  · rename_i c
    have := List.idxOf_lt_length_of_mem (k c)
    omega
  · omega
theorem sortN_map (nm : Nms) (f : Str × Int → Int) : sortN (nm.map fun p => (p.1, f p)) = (sortN nm).map fun p => (p.1, f p) := by
  unfold sortN
  exact sortBy_map (fun p : Str × Int => p.1) (fun p => (p.1, f p)) (fun p : Str × Int => p.1) (fun _ => rfl) nm
theorem sortN_id {nm : Nms} (nd : (nm.map (·.1)).Nodup) : sortN (sortN nm) = sortN nm := by
  unfold sortN
  exact (sortBy_uniq (f := fun p : Str × Int => p.1) (xs := sortBy (·.1) nm) (ys := sortBy (·.1) nm) (sortN_nd nd) (List.Perm.refl _) (sortBy_pw _ nm)).symm
theorem canN_len (nm : Nms) (it : Its) : (canN nm it).length = nm.length := by unfold canN; rw [List.length_map, (sortN_perm nm).length_eq]
theorem canI_len (nm : Nms) (it : Its) : (canI nm it).length = (ord nm it).length := by unfold canI; rw [List.length_map]
theorem canN_srt {nm : Nms} {it : Its} (nd : (nm.map (·.1)).Nodup) : sortN (canN nm it) = canN nm it := by
  unfold canN
  rw [sortN_map, sortN_id nd]
theorem canI_nx {nm : Nms} {it : Its} (x : Int) (hx : x ∈ ord nm it) (h : Fit nm it) : nxOf (canI nm it) (anew (ord nm it) x) = (nxOf it x).map (anew (ord nm it)) := by
  have hp := (ord_in h x hx).1
  have hl := List.idxOf_lt_length_of_mem hx
  have e : (anew (ord nm it) x - 1).toNat = (ord nm it).idxOf x := by
    unfold anew
    rw [if_pos (by omega)]
    omega
  unfold nxOf
  rw [e]
  unfold canI
  rw [List.getElem?_map, List.getElem?_eq_getElem hl, List.getElem_idxOf hl]
  rfl
theorem can_of {nm : Nms} {it : Its} (h : Raw nm it) : Can (canN nm it) (canI nm it) := by
  have hf := h.fit
  obtain ⟨c1, c2⟩ := ord_clo hf
  have pos : ∀ x ∈ ord nm it, 0 < x := fun x hx => by have := (ord_in hf x hx).1; omega
  have names : (canN nm it).map (·.1) = (sortN nm).map (·.1) := by unfold canN; rw [List.map_map]; rfl
  have itm : ∀ p ∈ canI nm it, ∃ x ∈ ord nm it, ∃ q ∈ it, nxOf it x = q.2 ∧ p = (q.1, q.2.map (anew (ord nm it))) := fun p hp => by
    obtain ⟨x, hx, rfl⟩ := List.mem_map.mp hp
    obtain ⟨q, hq, e1, e2⟩ := it_at (ord_in hf x hx)
    exact ⟨x, hx, q, List.mem_of_getElem? hq, e1, by rw [e1, e2]⟩
  have tgt : ∀ p ∈ canI nm it, ∀ t ∈ p.2, -1 ≤ t ∧ t ≤ (canI nm it).length := fun p hp t ht => by
    obtain ⟨x, hx, q, hq, e1, rfl⟩ := itm p hp
    obtain ⟨u, hu, rfl⟩ := List.mem_map.mp ht
    rw [canI_len]
    have hu' : u ∈ nxOf it x := by rw [e1]; exact hu
    exact anew_le (hf.hi q hq u hu).1 (c2 x hx u hu')
  have fit : Fit (canN nm it) (canI nm it) := by
    refine ⟨by rw [names]; exact sortN_nd hf.nd, by rw [canN_len]; exact hf.n6, by rw [canI_len]; exact Nat.le_trans (ord_le hf) hf.i6, tgt, fun p hp => ?_, fun p hp => ?_⟩
    · obtain ⟨q, hq, rfl⟩ := List.mem_map.mp hp
      have hq' := (sortN_perm nm).mem_iff.mp hq
      rw [canI_len]
      exact anew_le (hf.ht q hq').1 (c1 q hq')
    · obtain ⟨x, hx, q, hq, e1, rfl⟩ := itm p hp
      rw [List.length_map]; exact hf.h2 q hq
  refine ⟨⟨fit, fun p hp => ?_, fun p hp => ?_⟩, canN_srt hf.nd, ?_⟩
  · obtain ⟨q, hq, rfl⟩ := List.mem_map.mp hp
    exact h.hw q ((sortN_perm nm).mem_iff.mp hq)
  · refine ⟨?_, tgt p hp⟩
    obtain ⟨x, hx, q, hq, e1, rfl⟩ := itm p hp
    simp only [List.length_map]
    exact (h.hi q hq).w
  · -- all is met, in order
    have ren := anew_ren pos
    have e0 : push [] ((sortN (canN nm it)).map (·.2)) = (push [] ((sortN nm).map (·.2))).map (anew (ord nm it)) := by
      rw [canN_srt hf.nd]
      have : (canN nm it).map (·.2) = ((sortN nm).map (·.2)).map (anew (ord nm it)) := by unfold canN; rw [List.map_map, List.map_map]; rfl
      rw [this]
      exact push_map ren (f := []) (fun x hx => by cases hx) fun t ht h0 => by
        obtain ⟨p, hp, rfl⟩ := List.mem_map.mp ht
        exact c1 p ((sortN_perm nm).mem_iff.mp hp) h0
    unfold ord
    rw [e0, bfs_map (nx := nxOf it) ren c2 (fun x hx => canI_nx x hx hf) (fun x hx => bfs_pre.subset hx), canI_len]
    have sh : bfs (nxOf it) (ord nm it).length 0 (push [] ((sortN nm).map (·.2))) = ord nm it := by
      have hle := ord_le hf
      have e : it.length = (ord nm it).length + (it.length - (ord nm it).length) := by omega
      have q := bfs_short (nx := nxOf it) (m := (ord nm it).length) (k := 0) (d := it.length - (ord nm it).length) (f := push [] ((sortN nm).map (·.2)))
      rw [← e] at q
      exact q (by show (ord nm it).length ≤ _; omega)
    rw [sh]
    exact anew_all ord_nd pos
/-! ### numbers turned -/
structure Turn (ld : Nms) (it : Its) (g : Int → Int) (nm' : Nms) (it' : Its) : Prop where
  g0 : g 0 = 0
  g1 : g (-1) = -1
  ren : Ren (InR it.length) g
  rng : ∀ x, InR it.length x → InR it.length (g x)
  len : it'.length = it.length
  at_ : ∀ x, InR it.length x → it'[(g x - 1).toNat]? = some (wOf it x, (nxOf it x).map g)
  sur : ∀ y, InR it.length y → ∃ x, InR it.length x ∧ g x = y
  nm : (ld.map fun p => (p.1, g p.2)).Perm nm'
theorem g_low {ld nm' : Nms} {it it' : Its} {g : Int → Int} (t : Turn ld it g nm' it') {x : Int} (h : -1 ≤ x) (k : x ≤ 0) : g x = x := by
  have : x = 0 ∨ x = -1 := by omega
  rcases this with rfl | rfl
  · exact t.g0
  · exact t.g1
theorem turn_ok {ld nm' : Nms} {it it' : Its} {g : Int → Int} (h : Can ld it) (t : Turn ld it g nm' it') : Raw nm' it' ∧ (ord nm' it').length = it'.length ∧ canN nm' it' = ld ∧ canI nm' it' = it := by
  have hf := h.raw.fit
  have rngx : ∀ u : Int, -1 ≤ u ∧ u ≤ it.length → -1 ≤ g u ∧ g u ≤ it'.length := fun u hu => by
    rw [t.len]
    by_cases c : 0 < u
    · have := t.rng u ⟨by omega, hu.2⟩
      exact ⟨by have := this.1; omega, this.2⟩
    · rw [g_low t hu.1 (by omega)]; omega
  have nmem : ∀ p ∈ nm', ∃ q ∈ ld, p = (q.1, g q.2) := fun p hp => by
    obtain ⟨q, hq, rfl⟩ := List.mem_map.mp (t.nm.mem_iff.mpr hp)
    exact ⟨q, hq, rfl⟩
  have keys : (ld.map fun p => (p.1, g p.2)).map (·.1) = ld.map (·.1) := by rw [List.map_map]; rfl
  have nd' : (nm'.map (·.1)).Nodup := ((t.nm.map (·.1)).nodup_iff).mp (by rw [keys]; exact hf.nd)
  have imem : ∀ p ∈ it', ∃ x, InR it.length x ∧ ∃ q ∈ it, nxOf it x = q.2 ∧ p = (q.1, q.2.map g) := fun p hp => by
    obtain ⟨i, hi⟩ := List.getElem?_of_mem hp
    have hl := (List.getElem?_eq_some_iff.mp hi).1
    rw [t.len] at hl
    obtain ⟨x, hx, gx⟩ := t.sur ((i : Int) + 1) ⟨by omega, by omega⟩
    have e := t.at_ x hx
    rw [gx, show (((i : Int) + 1) - 1).toNat = i by omega, hi] at e
    obtain ⟨q, hq, e1, e2⟩ := it_at hx
    rw [e1, e2] at e
    exact ⟨x, hx, q, List.mem_of_getElem? hq, e1, Option.some.inj e⟩
  have tgt : ∀ p ∈ it', ∀ u ∈ p.2, -1 ≤ u ∧ u ≤ it'.length := fun p hp u hu => by
    obtain ⟨x, hx, q, hq, e1, rfl⟩ := imem p hp
    obtain ⟨v, hv, rfl⟩ := List.mem_map.mp hu
    exact rngx v (hf.hi q hq v hv)
  have raw : Raw nm' it' := by
    refine ⟨⟨nd', by rw [← t.nm.length_eq, List.length_map]; exact hf.n6, by rw [t.len]; exact hf.i6, tgt, fun p hp => ?_, fun p hp => ?_⟩, fun p hp => ?_, fun p hp => ?_⟩
    · obtain ⟨q, hq, rfl⟩ := nmem p hp
      exact rngx q.2 (hf.ht q hq)
    · obtain ⟨x, hx, q, hq, e1, rfl⟩ := imem p hp
      rw [List.length_map]; exact hf.h2 q hq
    · obtain ⟨q, hq, rfl⟩ := nmem p hp
      exact h.raw.hw q hq
    · refine ⟨?_, tgt p hp⟩
      obtain ⟨x, hx, q, hq, e1, rfl⟩ := imem p hp
      simp only [List.length_map]
      exact (h.raw.hi q hq).w
  have srt : sortN nm' = ld.map fun p => (p.1, g p.2) := by
    refine (sortBy_uniq (f := fun p : Str × Int => p.1) nd' t.nm ?_).symm
    rw [List.pairwise_map]
    have := sortBy_pw (fun p : Str × Int => p.1) ld
    have e : sortBy (fun p : Str × Int => p.1) ld = ld := h.srt
    rw [e] at this
    exact this
  have hord : ord nm' it' = (rngI it.length).map g := by
    unfold ord
    rw [srt, t.len]
    have e1 : (ld.map fun p => (p.1, g p.2)).map (·.2) = (ld.map (·.2)).map g := by rw [List.map_map, List.map_map]; rfl
    have hp : ∀ u ∈ ld.map (·.2), 0 < u → InR it.length u := fun u hu h0 => by
      obtain ⟨p, hp, rfl⟩ := List.mem_map.mp hu
      exact ⟨by omega, (hf.ht p hp).2⟩
    have e2 : push [] ((ld.map (·.2)).map g) = (push [] (ld.map (·.2))).map g := push_map t.ren (f := []) (fun x hx => by cases hx) hp
    have hc : ∀ x, InR it.length x → ∀ u ∈ nxOf it x, 0 < u → InR it.length u := fun x _ u hu h0 => ⟨by omega, (nx_in hf x u hu).2⟩
    rw [e1, e2, bfs_map (nx := nxOf it) (nx' := nxOf it') t.ren hc (fun x hx => by
      unfold nxOf
      rw [t.at_ x hx]
      rfl) (fun x hx => by
      rcases push_mem.mp hx with c | ⟨c, d⟩
      · cases c
      · exact hp x c d)]
    have e3 := h.full
    unfold ord at e3
    rw [h.srt] at e3
    rw [e3]
  have hback : ∀ u : Int, -1 ≤ u ∧ u ≤ it.length → anew (ord nm' it') (g u) = u := fun u hu => by
    rw [hord]
    by_cases c : 0 < u
    · have hu' : InR it.length u := ⟨by omega, hu.2⟩
      unfold anew
      rw [if_pos (t.ren.pos u hu')]
      have nd2 : ((rngI it.length).map g).Nodup := by rw [← hord]; exact ord_nd
      have : ((rngI it.length).map g)[(u - 1).toNat]? = some (g u) := by
        rw [List.getElem?_map, rngI_at (by omega)]
        simp only [Option.map_some]
        congr 2
        omega
      rw [idx_at nd2 this]
      omega
    · rw [g_low t hu.1 (by omega)]
      unfold anew
      rw [if_neg c]
  refine ⟨raw, by rw [hord, List.length_map, rngI_len, t.len], ?_, ?_⟩
  · unfold canN
    rw [srt, List.map_map]
    have : ld.map ((fun p : Str × Int => (p.1, anew (ord nm' it') p.2)) ∘ fun p => (p.1, g p.2)) = ld.map id := List.map_congr_left fun p hp => by
      simp only [Function.comp, id]
      rw [hback p.2 (hf.ht p hp)]
    rw [this, List.map_id]
  · unfold canI
    have : (ord nm' it').map (fun x => (wOf it' x, (nxOf it' x).map (anew (ord nm' it')))) = (rngI it.length).map fun x => (wOf it x, nxOf it x) := by
      rw [show (ord nm' it').map (fun x => (wOf it' x, (nxOf it' x).map (anew (ord nm' it')))) = ((rngI it.length).map g).map (fun x => (wOf it' x, (nxOf it' x).map (anew (ord nm' it')))) by rw [← hord], List.map_map]
      refine List.map_congr_left fun x hx => ?_
      have hx' := rngI_mem.mp hx
      have e := t.at_ x hx'
      simp only [Function.comp]
      have e1 : wOf it' (g x) = wOf it x := by unfold wOf at *; rw [e]
      have e2 : nxOf it' (g x) = (nxOf it x).map g := by
        have e' := e
        unfold nxOf at *
        rw [e']
      rw [e1, e2, List.map_map]
      congr 1
      have : (nxOf it x).map (anew (ord nm' it') ∘ g) = (nxOf it x).map id := List.map_congr_left fun u hu => by
        simp only [Function.comp, id]
        exact hback u (nx_in hf x u hu)
      rw [this, List.map_id]
    rw [this]
    apply List.ext_getElem?
    intro i
    rw [List.getElem?_map]
    by_cases c : i < it.length
    · rw [rngI_at c, List.getElem?_eq_getElem c]
      simp only [Option.map_some]
      unfold wOf nxOf
      rw [show (((i : Int) + 1) - 1).toNat = i by omega, List.getElem?_eq_getElem c]
    · rw [List.getElem?_eq_none (by rw [rngI_len]; omega), List.getElem?_eq_none (by omega)]; rfl
theorem turn_id {ld : Nms} {it : Its} (h : Can ld it) : Turn ld it id ld it := by
  refine ⟨rfl, rfl, ⟨fun a b _ _ e => e, fun a ha => by have := ha.1; show 0 < a; omega, fun a ha => ha⟩, fun x hx => hx, rfl, fun x hx => ?_, fun y hy => ⟨y, hy, rfl⟩, ?_⟩
  · obtain ⟨p, hp, e1, e2⟩ := it_at hx
    rw [List.map_id, e1, e2]
    exact hp
  · have : (ld.map fun p => (p.1, id p.2)) = ld := by
      have : (ld.map fun p => (p.1, id p.2)) = ld.map id := List.map_congr_left fun p _ => rfl
      rw [this, List.map_id]
    rw [this]
end K03
set_option Elab.async false
set_option linter.all false
set_option maxRecDepth 100000
set_option maxHeartbeats 4000000
namespace K03
open PySem L2 Oz

theorem app_get {S T : Hs} {r : Nat} {o : Ob} (h : S[r]? = some o) : (S ++ T)[r]? = some o := by
  rw [List.getElem?_append_left (List.getElem?_eq_some_iff.mp h).1]; exact h
theorem mem_ints {S : Hs} {v : Vl} {f : List Int} {t : Int} (h : seqOf S v = some (f.map .int)) (hd : dctOf S v = none) (hv : ∀ y, v ≠ .str y) : memF S (.int t) v = some (decide (t ∈ f)) := by
  have hf : (f.map Vl.int).all Vl.flat = true := List.all_eq_true.mpr fun x hx => by
    obtain ⟨y, _, rfl⟩ := List.mem_map.mp hx
    rfl
  have ha : ((f.map Vl.int).any fun z => eqF z (.int t)) = decide (t ∈ f) := by
    clear h hf
    induction f with
    | nil => simp
    | cons y f ih =>
      rw [List.map_cons, List.any_cons, ih]
      simp only [eqF]
      by_cases c : y = t
      · subst c; simp
      · simp [c, Ne.symm c]
  unfold memF
  split
  · rename_i z
    exact absurd rfl (hv z)
  · rw [hd]
    simp only [h]
    rw [hf]
    simp only [Vl.flat, Bool.and_self, if_true, ha]
theorem look_at {u : Int} : ∀ {F : List Int} {vs : List Vl}, F.length = vs.length → u ∈ F → lookG (F.map (Sum.inl : Int → Key)) vs (Sum.inl u) = vs[F.idxOf u]?
  | [], _, _, h => by cases h
  | x :: F, [], h, _ => by simp at h
  | x :: F, v :: vs, h, hu => by
    simp only [List.map_cons, lookG]
    by_cases c : x = u
    · subst c; rw [if_pos rfl]; simp
    · have e3 : (x :: F).idxOf u = F.idxOf u + 1 := by simp only [List.idxOf_cons, beq_eq_false_iff_ne.mpr c, cond_false]
      rw [if_neg (fun z => c (Sum.inl.inj z)), e3, List.getElem?_cons_succ]
      exact look_at (by simpa using h) ((List.mem_cons.mp hu).resolve_left fun e => c e.symm)
/-- the points as a dict holds them -/
def spD (vs : List Vl) : Ob := .dct ((rngI vs.length).map Sum.inl) vs
def ldD (nm : Nms) : Ob := .dct (nm.map fun p => Sum.inr p.1) (nm.map fun p => .int p.2)
theorem ix_sp {S : Hs} {v : Vl} {vs : List Vl} {x : Int} (h : dctOf S v = some ((rngI vs.length).map Sum.inl, vs)) (hx : InR vs.length x) : idxop S v (.int x) = vs[(x - 1).toNat]? := by
  rw [ix_dct h, look_at (rngI_len _) (rngI_mem.mpr hx)]
  have : (rngI vs.length)[(x - 1).toNat]? = some x := by
    have := hx.1
    have := hx.2
    rw [rngI_at (by omega)]
    congr 1
    omega
  rw [idx_at (rngI_nodup _) this]
theorem ix_ld {S : Hs} {v : Vl} {nm : Nms} {p : Str × Int} (h : dctOf S v = some (nm.map fun p => Sum.inr p.1, nm.map fun p => .int p.2)) (nd : (nm.map (·.1)).Nodup) (hp : p ∈ nm) : idxop S v (.str p.1) = some (.int p.2) := by
  rw [ix_dcts h, look_ld, lk_of nd hp]; rfl
theorem srtd_ld {S : Hs} {v : Vl} {nm : Nms} (h : dctOf S v = some (nm.map fun p => Sum.inr p.1, nm.map fun p => .int p.2)) (hl : nm.length < 64) : srtdop S v = some (((sortN nm).map (·.1)).map .str) := by
  have ak : ∀ nm : Nms, allK (nm.map fun p => (Sum.inr p.1 : Key)) = some (nm.map (·.1)) := fun nm => by
    induction nm with
    | nil => rfl
    | cons p nm ih => simp only [List.map_cons, allK, ih, Option.map_some]
  unfold srtdop
  rw [h]
  simp only [ak]
  rw [if_pos (by rw [List.length_map]; exact hl)]
  congr 2
  exact (sortBy_keys (fun p : Str × Int => p.1) nm).symm
theorem lpush {M : Mach} {η : Sg} {S : Hs} {f : List Int} {e : E} {t : Int} (h2 : η[2]? = some (some (.ref S.length))) (he : ev M e η (S ++ [.lst (f.map .int)]) = .ok (.int t) (S ++ [.lst (f.map .int)])) (hl : f.length ≤ 1000) :
    exec M (.cons (.ite (.band (.cmp .Gt e (.cst (.int 0))) (.cmp .NotIn e (.var 2))) (.cons (.ex (.mut .append (.var 2) (.cons e .nil))) .nil) .nil) .nil) η (S ++ [.lst (f.map .int)]) = .nx η (S ++ [.lst ((push1 f t).map .int)]) := by
  have mem : cmpop .NotIn (S ++ [.lst (f.map .int)]) (.int t) (.ref S.length) = some (!decide (t ∈ f)) := by
    simp only [cmpop]
    rw [mem_ints (f := f) (by simp only [seqOf, List.getElem?_concat_length]) (by simp only [dctOf, List.getElem?_concat_length]) (by intro y z; cases z)]
    rfl
  by_cases c : 0 < t
  · by_cases d : t ∈ f
    · rw [decide_eq_true d] at mem
      rw [show push1 f t = f from if_neg fun z => z.2 d]
      exact ex_nx (x_ite0 _ (v_and1 (v_cmp he v_cst (congrArg some (decide_eq_true c))) (v_cmp he (v_var h2) mem)) ex_nil) ex_nil
    · rw [decide_eq_false d] at mem
      rw [show push1 f t = f ++ [t] from if_pos ⟨c, d⟩]
      refine ex_nx (x_ite1 _ (v_and1 (v_cmp he v_cst (congrArg some (decide_eq_true c))) (v_cmp he (v_var h2) mem)) (ex_nx (x_ex _ _ (v_mut (k := S.length) (ys := f.map .int) (v_var h2) (lstAt_last _ _) (vs_cons he vs_nil) List.getElem?_concat_length (mut_app (by rw [List.length_map]; omega)))) ex_nil)) ?_
      rw [set_last, List.map_append]
      exact ex_nil
  · rw [show push1 f t = f from if_neg fun z => c z.1]
    exact ex_nx (x_ite0 _ (v_and0 (v_cmp he v_cst (congrArg some (decide_eq_false c)))) ex_nil) ex_nil
theorem r_lmet (n : Nat) {nm : Nms} {it : Its} (h : Fit nm it) {S : Hs} {r1 r2 : Nat} (hS : NR S) (h1 : S[r1]? = some (ldD nm)) (h2 : S[r2]? = some (spD (valI it))) : (Mn (n + 1)).cal "_law_met" [.ref r1, .ref r2] S = .ok (.frs (.lst ((ord nm it).map .int))) S := by
  rw [u__law_met]
  have n6 := h.n6
  have i6 := h.i6
  have d1 : ∀ T, dctOf (S ++ T) (.ref r1) = some (nm.map fun p => Sum.inr p.1, nm.map fun p => .int p.2) := fun T => by simp only [dctOf, app_get h1, ldD]
  have d2 : ∀ T, dctOf (S ++ T) (.ref r2) = some ((rngI (valI it).length).map Sum.inl, valI it) := fun T => by simp only [dctOf, app_get h2, spD]
  have names : ∃ a3, forL (fun η1 S2 => exec (Mn n) w1__law_met η1 S2) (.nm 3) [] (((sortN nm).map (·.1)).map .str) [some (.ref r1), some (.ref r2), some (.ref S.length), none, none, none] (S ++ [.lst (([] : List Int).map .int)])
      = .nx [some (.ref r1), some (.ref r2), some (.ref S.length), a3, none, none] (S ++ [.lst ((push [] ((sortN nm).map (·.2))).map .int)]) := by
    obtain ⟨η', S', g1, a3, e1, e2⟩ := for_ok (body := fun η1 S2 => exec (Mn n) w1__law_met η1 S2) (t := .nm 3) (lk := []) (xs := ((sortN nm).map (·.1)).map .str) (η := [some (.ref r1), some (.ref r2), some (.ref S.length), none, none, none]) (S := S ++ [.lst (([] : List Int).map .int)])
      (fun i η S' => ∃ a3, η = [some (.ref r1), some (.ref r2), some (.ref S.length), a3, none, none] ∧ S' = S ++ [.lst ((push [] (((sortN nm).map (·.2)).take i)).map .int)])
      ⟨none, rfl, rfl⟩ (fun i η S' _ => lock_nil _) fun i x η S' hx ⟨a3, e1, e2⟩ => by
        subst e1 e2
        rw [List.getElem?_map, List.getElem?_map] at hx
        obtain ⟨z, hz, rfl⟩ := Option.map_eq_some_iff.mp hx
        obtain ⟨p, hp, rfl⟩ := Option.map_eq_some_iff.mp hz
        have hp2 : ((sortN nm).map (·.2))[i]? = some p.2 := by rw [List.getElem?_map, hp]; rfl
        have hpm := (sortN_perm nm).mem_iff.mp (List.mem_of_getElem? hp)
        have q := push_len (f := []) (ts := ((sortN nm).map (·.2)).take i)
        have q3 := List.length_take_le' i ((sortN nm).map (·.2))
        rw [List.length_map, (sortN_perm nm).length_eq] at q3
        refine ⟨_, rfl, _, _, .inl (lpush (t := p.2) rfl (v_idx (v_var rfl) (v_var rfl) (ix_ld (d1 _) h.nd hpm)) (by simp only [List.length_nil] at q; omega)), _, rfl, ?_⟩
        rw [take_succ_at hp2, push_snoc]
    subst e1
    rw [List.take_of_length_le (by rw [List.length_map, List.length_map, List.length_map]; exact Nat.le_refl _)] at e2
    subst e2
    exact ⟨a3, g1⟩
  obtain ⟨a3, hnm⟩ := names
  have pts : ∃ a4 a5, forL (fun η1 S2 => exec (Mn n) w3__law_met η1 S2) (.nm 4) [] (rngL 0 it.length) [some (.ref r1), some (.ref r2), some (.ref S.length), a3, none, none] (S ++ [.lst ((push [] ((sortN nm).map (·.2))).map .int)])
      = .nx [some (.ref r1), some (.ref r2), some (.ref S.length), a3, a4, a5] (S ++ [.lst ((ord nm it).map .int)]) := by
    obtain ⟨η', S', g1, a4, a5, f, e1, e2, e3⟩ := for_ok (body := fun η1 S2 => exec (Mn n) w3__law_met η1 S2) (t := .nm 4) (lk := []) (xs := rngL 0 it.length) (η := [some (.ref r1), some (.ref r2), some (.ref S.length), a3, none, none]) (S := S ++ [.lst ((push [] ((sortN nm).map (·.2))).map .int)])
      (fun i η S' => ∃ a4 a5 f, η = [some (.ref r1), some (.ref r2), some (.ref S.length), a3, a4, a5] ∧ S' = S ++ [.lst (f.map .int)] ∧ bfs (nxOf it) (it.length - i) i f = ord nm it)
      ⟨none, none, _, rfl, rfl, rfl⟩ (fun i η S' _ => lock_nil _) fun i x η S' hx ⟨a4, a5, f, e1, e2, e3⟩ => by
        subst e1 e2
        obtain ⟨hi, rfl⟩ := rng_at hx
        have pre : f <+: ord nm it := by rw [← e3]; exact bfs_pre
        have hfl := pre.length_le
        have hol := ord_le h
        have hlen : b1op .len (S ++ [.lst (f.map .int)]) (.ref S.length) = some (.int f.length) := by
          simp only [b1op, dctOf, seqOf, List.getElem?_concat_length, Option.map_some, List.length_map]
        have hd : it.length - i = (it.length - (i + 1)) + 1 := by omega
        rw [hd] at e3
        unfold bfs at e3
        by_cases c : i < f.length
        · have hx : f[i]? = some f[i] := List.getElem?_eq_getElem c
          rw [hx] at e3
          simp only at e3
          have hxin := ord_in h f[i] (pre.subset (List.getElem_mem c))
          obtain ⟨p, hp, hnx, _⟩ := it_at hxin
          rw [hnx] at e3
          have hpm := List.mem_of_getElem? hp
          have ix1 : idxop (S ++ [.lst (f.map .int)]) (.ref S.length) (.int i) = some (.int f[i]) := by
            show (match dctOf (S ++ [.lst (f.map .int)]) (.ref S.length) with | some (ks, vs) => _ | none => _) = _
            simp only [dctOf, seqOf, List.getElem?_concat_length]
            exact ix_lst (S := []) (by rw [List.getElem?_map, hx]; rfl)
          have ix2 : idxop (S ++ [.lst (f.map .int)]) (.ref r2) (.int f[i]) = some (.tup [.str p.1, .tup (p.2.map .int)]) := by
            rw [ix_sp (d2 _) (by rw [valI_len]; exact hxin)]
            exact valI_get hp
          have inner : ∃ b5, forL (fun η1 S2 => exec (Mn n) w2__law_met η1 S2) (.nm 5) [] (p.2.map .int) [some (.ref r1), some (.ref r2), some (.ref S.length), a3, some (.int i), a5] (S ++ [.lst (f.map .int)]) = .nx [some (.ref r1), some (.ref r2), some (.ref S.length), a3, some (.int i), b5] (S ++ [.lst ((push f p.2).map .int)]) := by
            obtain ⟨η', S', g1, b5, e1, e2⟩ := for_ok (body := fun η1 S2 => exec (Mn n) w2__law_met η1 S2) (t := .nm 5) (lk := []) (xs := p.2.map .int) (η := [some (.ref r1), some (.ref r2), some (.ref S.length), a3, some (.int i), a5]) (S := S ++ [.lst (f.map .int)])
              (fun j η S' => ∃ b5, η = [some (.ref r1), some (.ref r2), some (.ref S.length), a3, some (.int i), b5] ∧ S' = S ++ [.lst ((push f (p.2.take j)).map .int)])
              ⟨a5, rfl, rfl⟩ (fun j η S' _ => lock_nil _) fun j x η S' hx ⟨b5, e1, e2⟩ => by
                subst e1 e2
                rw [List.getElem?_map] at hx
                obtain ⟨t, ht, rfl⟩ := Option.map_eq_some_iff.mp hx
                have q := push_len (f := f) (ts := p.2.take j)
                have q3 := List.length_take_le' j p.2
                have := h.h2 p hpm
                refine ⟨_, rfl, _, _, .inl (lpush (t := t) rfl (v_var rfl) (by omega)), _, rfl, ?_⟩
                rw [take_succ_at ht, push_snoc]
            subst e1
            rw [List.take_of_length_le (by rw [List.length_map]; exact Nat.le_refl _)] at e2
            subst e2
            exact ⟨b5, g1⟩
          obtain ⟨b5, hin⟩ := inner
          exact ⟨_, rfl, _, _, .inl (ex_nx (x_ite1 _ (v_cmp (v_var rfl) (v_b1 (v_var rfl) hlen) (congrArg some (decide_eq_true (by omega)))) (ex_nx (x_for _ _ _ (ev_sq (v_idx (v_idx (v_var rfl) (v_idx (v_var rfl) (v_var rfl) ix1) ix2) v_cst (ix_tup (i := 1) rfl)) rfl) hin) ex_nil)) ex_nil), _, _, _, rfl, rfl, e3⟩
        · have en : f[i]? = none := List.getElem?_eq_none (by omega)
          rw [en] at e3
          simp only at e3
          refine ⟨_, rfl, _, _, .inl (ex_nx (x_ite0 _ (v_cmp (v_var rfl) (v_b1 (v_var rfl) hlen) (congrArg some (decide_eq_false (by omega)))) ex_nil) ex_nil), _, _, f, rfl, rfl, ?_⟩
          rw [← e3]
          cases it.length - (i + 1) with
          | zero => rfl
          | succ d =>
            unfold bfs
            rw [List.getElem?_eq_none (by omega)]
    subst e1 e2
    rw [rngL_len, Nat.sub_self] at e3
    have ef : f = ord nm it := e3
    subst ef
    exact ⟨a4, a5, g1⟩
  obtain ⟨a4, a5, hp⟩ := pts
  refine cal_ref (T := [.lst ((ord nm it).map .int)]) (r := 0) rfl ?_ hS rfl (by simp only [Ob.nr, nrs_map_int])
  show exec (Mn n) b__law_met [some (.ref r1), some (.ref r2), none, none, none, none] S = _
  have hlen : b1op .len (S ++ [.lst ((push [] ((sortN nm).map (·.2))).map .int)]) (.ref r2) = some (.int it.length) := by
    have : b1op .len (S ++ [.lst ((push [] ((sortN nm).map (·.2))).map .int)]) (.ref r2) = match dctOf (S ++ [.lst ((push [] ((sortN nm).map (·.2))).map .int)]) (.ref r2) with | some (ks, _) => some (.int ks.length) | none => (seqOf (S ++ [.lst ((push [] ((sortN nm).map (·.2))).map .int)]) (.ref r2)).map fun ys => .int ys.length := rfl
    rw [this, d2]
    simp only [List.length_map, rngI_len, valI_len]
  exact ex_nx (x_asg _ _ (v_alc (f_lst vs_nil (show 0 ≤ 1000000 by decide))) rfl) (ex_nx (x_for _ _ _ (ev_sq (v_inl (f_srtd (v_var rfl) (srtd_ld (d1 _) (by omega)))) rfl) hnm) (ex_nx (x_for _ _ _ (ev_rng1 (v_b1 (v_var rfl) hlen) (by omega)) hp) (ex_ret (x_ret _ _ (v_var rfl)))))
/-! ### told by names in order, points as they are met -/
def base (u : Int) : Option Int := if u = -1 then some (-1) else if u = 0 then some 0 else none
def mTake (F : List Int) (i : Nat) (u : Int) : Option Int := if u ∈ F.take i then some ((F.idxOf u : Int) + 1) else base u
theorem mTake_all {F : List Int} (pos : ∀ x ∈ F, 0 < x) {t : Int} (h : -1 ≤ t) (k : 0 < t → t ∈ F) : mTake F F.length t = some (anew F t) := by
  unfold mTake anew base
  rw [List.take_length]
  by_cases c : 0 < t
  · rw [if_pos (k c), if_pos c]
  · rw [if_neg (fun z => c (pos t z)), if_neg c]
    by_cases d : t = -1
    · rw [if_pos d, d]
    · rw [if_neg d, if_pos (show t = 0 by omega), show t = 0 by omega]
theorem mTake_succ {F : List Int} (nd : F.Nodup) {i : Nat} {x : Int} (e : F[i]? = some x) (u : Int) : (if u = x then some ((i : Int) + 1) else mTake F i u) = mTake F (i + 1) u := by
  unfold mTake
  rw [take_succ_at e]
  by_cases c : u = x
  · subst c
    rw [if_pos rfl, if_pos (by simp), idx_at nd e]
  · rw [if_neg c]
    by_cases d : u ∈ F.take i
    · rw [if_pos d, if_pos (List.mem_append_left _ d)]
    · rw [if_neg d, if_neg (by simp [d, c])]
theorem base_dm : Dm (putD [Sum.inl 0] [.int 0] (Sum.inl (-1)) (.int (-1))).1 (putD [Sum.inl 0] [.int 0] (Sum.inl (-1)) (.int (-1))).2 base := by
  have h0 : Dm [Sum.inl 0] [.int 0] fun u => if u = 0 then some 0 else none := ⟨rfl, by simp [nrs, Vl.nr], fun t => by
    simp only [lookG]
    by_cases c : t = 0
    · subst c; simp
    · have : ¬ (Sum.inl 0 : Key) = Sum.inl t := fun z => c (Sum.inl.inj z).symm
      simp [c, this]⟩
  exact (h0.put (-1) (-1)).congr fun t => rfl
def fNm (nm : Nms) (o : List Int) (v : Vl) : Vl := match v with
  | .str z => .tup [.str z, .int (anew o ((lk nm z).getD 0))]
  | _ => .non
theorem r_canon (n : Nat) {nm : Nms} {it : Its} (h : Fit nm it) {S : Hs} {r1 r2 : Nat} (hS : NR S) (h1 : S[r1]? = some (ldD nm)) (h2 : S[r2]? = some (spD (valI it))) : (Mn (n + 2)).cal "_law_canon" [.ref r1, .ref r2] S = .ok (.val (rv (canN nm it) (canI nm it))) S := by
  rw [u__law_canon]
  have n6 := h.n6
  have i6 := h.i6
  have hol := ord_le h
  obtain ⟨c1, c2⟩ := ord_clo h
  have pos : ∀ x ∈ ord nm it, 0 < x := fun x hx => by have := (ord_in h x hx).1; omega
  have d1 : ∀ T, dctOf (S ++ T) (.ref r1) = some (nm.map fun p => Sum.inr p.1, nm.map fun p => .int p.2) := fun T => by simp only [dctOf, app_get h1, ldD]
  have d2 : ∀ T, dctOf (S ++ T) (.ref r2) = some ((rngI (valI it).length).map Sum.inl, valI it) := fun T => by simp only [dctOf, app_get h2, spD]
  have loop : ∃ a4 ks vs, forL (fun η1 S2 => exec (Mn (n + 1)) w1__law_canon η1 S2) (.nm 4) [] (rngL 0 (ord nm it).length) [some (.ref r1), some (.ref r2), some (.lst ((ord nm it).map .int)), some (.ref S.length), none, none, none, none, none] (S ++ [.dct (putD [Sum.inl 0] [.int 0] (Sum.inl (-1)) (.int (-1))).1 (putD [Sum.inl 0] [.int 0] (Sum.inl (-1)) (.int (-1))).2])
      = .nx [some (.ref r1), some (.ref r2), some (.lst ((ord nm it).map .int)), some (.ref S.length), a4, none, none, none, none] (S ++ [.dct ks vs]) ∧ Dm ks vs (mTake (ord nm it) (ord nm it).length) := by
    obtain ⟨η', S', g1, a4, ks, vs, e1, e2, e3, e4⟩ := for_ok (body := fun η1 S2 => exec (Mn (n + 1)) w1__law_canon η1 S2) (t := .nm 4) (lk := []) (xs := rngL 0 (ord nm it).length) (η := [some (.ref r1), some (.ref r2), some (.lst ((ord nm it).map .int)), some (.ref S.length), none, none, none, none, none]) (S := S ++ [.dct (putD [Sum.inl 0] [.int 0] (Sum.inl (-1)) (.int (-1))).1 (putD [Sum.inl 0] [.int 0] (Sum.inl (-1)) (.int (-1))).2])
      (fun i η S' => ∃ a4 ks vs, η = [some (.ref r1), some (.ref r2), some (.lst ((ord nm it).map .int)), some (.ref S.length), a4, none, none, none, none] ∧ S' = S ++ [.dct ks vs] ∧ Dm ks vs (mTake (ord nm it) i) ∧ ks.length ≤ 2 + i)
      ⟨none, _, _, rfl, rfl, base_dm.congr fun t => by unfold mTake; rw [List.take_zero, if_neg (by simp)], by decide⟩ (fun i η S' _ => lock_nil _) fun i x η S' hx ⟨a4, ks, vs, e1, e2, e3, e4⟩ => by
        subst e1 e2
        obtain ⟨hi, rfl⟩ := rng_at hx
        have hxo : (ord nm it)[i]? = some (ord nm it)[i] := List.getElem?_eq_getElem hi
        have hput := (put_len (k := Sum.inl (ord nm it)[i]) (y := .int ((i : Int) + 1)) e3.1).2
        refine ⟨_, rfl, _, _, .inl (ex_nx (x_iset (v_bin (v_var rfl) v_cst (b_add _ _)) (v_var rfl) (v_idx (v_var rfl) (v_var rfl) (ix_lst (by rw [List.getElem?_map, hxo]; rfl))) (iset_dct (kk := Sum.inl (ord nm it)[i]) List.getElem?_concat_length rfl (by omega))) ex_nil), _, _, _, rfl, by rw [set_last], (e3.put _ _).congr (mTake_succ ord_nd hxo), by omega⟩
    subst e1 e2
    rw [rngL_len] at e3
    exact ⟨a4, ks, vs, g1, e3⟩
  obtain ⟨a4, ks, vs, hlp, hD⟩ := loop
  have ixA : ∀ (T : Hs) (t : Int), -1 ≤ t → (0 < t → t ∈ ord nm it) → idxop (S ++ [.dct ks vs] ++ T) (.ref S.length) (.int t) = some (.int (anew (ord nm it) t)) := fun T t g1 g2 => by
    rw [ix_dct (ks := ks) (vs := vs) (by simp only [dctOf, app_get List.getElem?_concat_length]), hD.2.2 t, mTake_all pos g1 g2]; rfl
  have names : evf (Mn (n + 1)) q2__law_canon [some (.ref r1), some (.ref r2), some (.lst ((ord nm it).map .int)), some (.ref S.length), a4, none, none, none, none] (S ++ [.dct ks vs]) = .ok (.lst (valN (canN nm it))) (S ++ [.dct ks vs]) := by
    unfold q2__law_canon
    have e0 : valN (canN nm it) = (((sortN nm).map (·.1)).map Vl.str).map (fNm nm (ord nm it)) := by
      unfold valN canN
      rw [List.map_map, List.map_map, List.map_map]
      refine List.map_congr_left fun p hp => ?_
      have := lk_of h.nd ((sortN_perm nm).mem_iff.mp hp)
      simp only [Function.comp, fNm, this, Option.getD_some]
    rw [e0]
    have hsrc : evS (Mn (n + 1)) (.sq (.inl (.srtd (.var 0)))) [some (.ref r1), some (.ref r2), some (.lst ((ord nm it).map .int)), some (.ref S.length), a4, none, none, none, none] (S ++ [.dct ks vs]) = .ok ([], ((sortN nm).map (·.1)).map .str) (S ++ [.dct ks vs]) := ev_sq (v_inl (f_srtd (v_var rfl) (srtd_ld (d1 _) (by omega)))) rfl
    refine ev_compM [] (((sortN nm).map (·.1)).map .str) (fNm nm (ord nm it)) hsrc (lock_nil _) (by rw [List.length_map, List.length_map, (sortN_perm nm).length_eq]; omega) (fun x hx => by
      obtain ⟨z, _, rfl⟩ := List.mem_map.mp hx
      simp only [fNm, Vl.nr, nrs, Bool.and_self]) fun x hx acc _ => ?_
    obtain ⟨z, hz, rfl⟩ := List.mem_map.mp hx
    obtain ⟨p, hp, rfl⟩ := List.mem_map.mp hz
    have hpm := (sortN_perm nm).mem_iff.mp hp
    refine ⟨_, rfl, ?_⟩
    show ev _ _ _ _ = .ok (.tup [.str p.1, .int (anew (ord nm it) ((lk nm p.1).getD 0))]) _
    rw [lk_of h.nd hpm, Option.getD_some]
    exact v_tup (vs_cons (v_var rfl) (vs_cons (v_idx (v_var rfl) (v_idx (v_var rfl) (v_var rfl) (by rw [List.append_assoc]; exact ix_ld (d1 _) h.nd hpm)) (ixA _ _ (h.ht p hpm).1 (c1 p hpm))) vs_nil)) (show 2 ≤ 1000000 by decide)
  have spots : evf (Mn (n + 1)) q4__law_canon [some (.ref r1), some (.ref r2), some (.lst ((ord nm it).map .int)), some (.ref S.length), a4, some (.lst (valN (canN nm it))), none, none, none] (S ++ [.dct ks vs]) = .ok (.lst (valI (canI nm it))) (S ++ [.dct ks vs]) := by
    rw [valI_canI]
    unfold q4__law_canon
    refine ev_compM [] ((ord nm it).map .int) (fSpot it (ord nm it)) (ev_sq (v_var rfl) rfl) (lock_nil _) (by rw [List.length_map]; omega) (fun x hx => by
      obtain ⟨y, _, rfl⟩ := List.mem_map.mp hx
      simp only [fSpot, Vl.nr, nrs, nrs_map_int, Bool.and_self]) fun x hx acc _ => ?_
    obtain ⟨y, hy, rfl⟩ := List.mem_map.mp hx
    have hyin := ord_in h y hy
    obtain ⟨p, hp, hnx, hwo⟩ := it_at hyin
    have ixI : ∀ T, idxop (S ++ T) (.ref r2) (.int y) = some (.tup [.str p.1, .tup (p.2.map .int)]) := fun T => by
      rw [ix_sp (d2 _) (by rw [valI_len]; exact hyin)]
      exact valI_get hp
    refine ⟨_, rfl, ?_⟩
    show ev _ _ _ _ = .ok (.tup [.str (wOf it y), .tup (((nxOf it y).map (anew (ord nm it))).map .int)]) _
    rw [hwo, hnx]
    refine v_tup (vs_cons (v_idx (v_idx (v_var rfl) (v_var rfl) (by rw [List.append_assoc]; exact ixI _)) v_cst (ix_tup (i := 0) rfl)) (vs_cons (v_b1 (v_inl (o := .lst ((p.2.map (anew (ord nm it))).map .int)) ?_) rfl) vs_nil)) (show 2 ≤ 1000000 by decide)
    unfold q3__law_canon
    have e : (p.2.map (anew (ord nm it))).map Vl.int = (p.2.map Vl.int).map (fun v => match v with | .int t => .int (anew (ord nm it) t) | _ => .non) := by
      rw [List.map_map, List.map_map]; rfl
    rw [e]
    refine ev_compM [] (p.2.map .int) _ (ev_sq (v_idx (v_idx (v_var rfl) (v_var rfl) (by rw [List.append_assoc]; exact ixI _)) v_cst (ix_tup (i := 1) rfl)) rfl) (lock_nil _) (by rw [List.length_map]; have := h.h2 p (List.mem_of_getElem? hp); omega) (fun x hx => by
      obtain ⟨t, _, rfl⟩ := List.mem_map.mp hx
      simp only [Vl.nr]) fun x hx acc2 _ => ?_
    obtain ⟨t, ht, rfl⟩ := List.mem_map.mp hx
    refine ⟨_, rfl, v_idx (v_var rfl) (v_var rfl) ?_⟩
    have ht' : t ∈ nxOf it y := by rw [hnx]; exact ht
    have := ixA ([.lst acc] ++ [.lst acc2]) t (nx_in h y t ht').1 (c2 y hy t ht')
    rw [← List.append_assoc] at this
    exact this
  refine cal_val (T := [.dct ks vs]) rfl ?_ hS (rv_nr _ _)
  show exec (Mn (n + 1)) b__law_canon [some (.ref r1), some (.ref r2), none, none, none, none, none, none, none] S = _
  have hd : evf (Mn (n + 1)) (.dspk [Sum.inl 0] (.cons (.cst (.int 0)) .nil)) [some (.ref r1), some (.ref r2), some (.lst ((ord nm it).map .int)), none, none, none, none, none, none] S = .ok (.dct [Sum.inl 0] [.int 0]) S :=
    f_dspk (vs_cons v_cst vs_nil) (by simp [nrs, Vl.nr]) (by decide) rfl (by decide)
  refine ex_nx (x_asg _ _ (v_call (vs_cons (v_var rfl) (vs_cons (v_var rfl) vs_nil)) (r_lmet n h hS h1 h2)) rfl) (ex_nx (x_asg _ _ (v_alc hd) rfl) (ex_nx (x_iset (v_bin v_cst v_cst (show binop .Sub (.int 0) (.int 1) = some (.int (-1)) from rfl)) (v_var rfl) (v_bin v_cst v_cst (show binop .Sub (.int 0) (.int 1) = some (.int (-1)) from rfl)) (iset_dct (kk := Sum.inl (-1)) List.getElem?_concat_length rfl (show 1 ≤ 1000000 by decide))) ?_))
  rw [set_last]
  exact ex_nx (x_for _ _ _ (ev_rng1 (v_b1 (v_var rfl) (by rw [Rv.v, Ob.inl, len_lst, List.length_map])) (by omega)) hlp) (ex_nx (x_asg _ _ (v_inl names) rfl) (ex_ret (x_ret _ _ (v_tup (vs_cons (v_var rfl) (vs_cons (v_inl spots) vs_nil)) (show 2 ≤ 1000000 by decide)))))
end K03
set_option Elab.async false
set_option linter.all false
set_option maxRecDepth 100000
set_option maxHeartbeats 4000000
namespace K03
open PySem L2 Oz

theorem cal_tupref {M : Mach} {d : Dfn} {xs : List Vl} {S T : Hs} {a : Vl} {r : Nat} {o : Ob} (hl : xs.length = d.np) (hb : exec M d.body (xs.map some ++ List.replicate (d.nn - xs.length) none) S = .ret (.val (.tup [a, .ref r])) (S ++ T)) (hS : NR S) (ha : a.nr = true) (hr : S.length ≤ r) (ho : (S ++ T)[r]? = some o) (hn : o.nr = true) : calD M d xs S = .ok (.val (.tup [a, o.inl])) S := by
  unfold calD
  rw [if_pos hl, hb]
  simp only
  have ht : (S ++ T).take S.length = S := by simp
  unfold finR
  rw [ht, if_pos (hS.cl _)]
  simp only
  have hlt : r < (S ++ T).length := (List.getElem?_eq_some_iff.mp ho).1
  have hm : (Vl.tup [a, .ref r]).mapO (fI S.length (S ++ T).length (S ++ T) depI) = some (.tup [a, o.inl]) := by
    have h1 : fI S.length (S ++ T).length (S ++ T) depI r = some o.inl := by
      unfold depI fI
      rw [if_neg (by omega), if_neg (by omega), ho]
      simp only
      rw [ob_mapO _ hn]; rfl
    simp only [Vl.mapO, mapOs, nr_mapO _ a ha, h1, Option.bind_some, Option.map_some]
  unfold finV
  simp only [hm, ht]
/-! ### lists that are empty or not -/
theorem toDs_nil {xs : List Vl} {ds : List PyData} (h : toDs xs = some ds) : ds.isEmpty = xs.isEmpty := by
  cases xs with
  | nil => simp only [toDs, Option.some.injEq] at h; subst h; rfl
  | cons x xs =>
    simp only [toDs] at h
    split at h
    · cases h; rfl
    · cases h
theorem dataEq_nil {S : Hs} {v : Vl} {xs : List Vl} (hv : dataOf S v = (Vl.lst xs).toD) (h : pds xs = true) (hd : deps xs ≤ 50) : dataEq S v (.lst []) = some xs.isEmpty := by
  have p1 : (Vl.lst xs).pd = true := by simp only [Vl.pd]; exact h
  have p2 : (Vl.lst []).pd = true := by simp only [Vl.pd, pds]
  obtain ⟨d1, e1, k1⟩ := pd_data _ p1
  obtain ⟨d2, e2, k2⟩ := dataOf_pd S p2
  have d1' := k1.shaped (by simp only [Vl.dep]; omega)
  have d2' := k2.shaped (by simp only [Vl.dep, deps]; omega)
  unfold dataEq
  rw [hv, e1, e2]
  simp only
  rw [if_pos ⟨d1', d2'⟩]
  simp only [Vl.toD] at e1
  obtain ⟨ds, e3, rfl⟩ := Option.map_eq_some_iff.mp e1
  have f2 : d2 = .list [] := by
    unfold dataOf at e2
    rw [inlS_nr _ _ (pd_nr _ p2)] at e2
    simp only [Vl.toD, toDs, Option.map_some, Option.some.injEq] at e2
    exact e2.symm
  subst f2
  rw [← toDs_nil e3]
  cases ds <;> simp [PyData.eqv, PyData.eqvAll]
theorem eq_nil {S : Hs} {xs : List Vl} (h : pds xs = true) (hd : deps xs ≤ 50) : cmpop .Eq S (.lst xs) (.lst []) = some xs.isEmpty := by
  simp only [cmpop]
  unfold eqop
  simp only [eqS]
  rw [eqDct_l _ rfl]
  simp only
  refine dataEq_nil ?_ h hd
  unfold dataOf
  rw [inlS_nr _ _ (by simp only [Vl.nr]; exact pds_nr _ h)]
theorem ne_nil {S : Hs} {r : Nat} {xs : List Vl} (hr : S[r]? = some (.lst xs)) (h : pds xs = true) (hd : deps xs ≤ 50) : cmpop .NotEq S (.ref r) (.lst []) = some (!xs.isEmpty) := by
  have e0 : eqDct S (.ref r) (.lst []) = none := eqDct_l _ (by simp only [dctOf, hr])
  simp only [cmpop]
  rw [e0]
  simp only [Option.isSome_none, Bool.false_eq_true, if_false]
  unfold eqop
  simp only [eqS]
  rw [e0]
  simp only
  rw [dataEq_nil (xs := xs) ?_ h hd]
  · rfl
  · unfold dataOf depS inlS
    simp only [Vl.mapRef, hr]
    rw [show (Ob.lst xs).inl = .lst xs from rfl, inlS_nr _ _ (by simp only [Vl.nr]; exact pds_nr _ h)]
/-! ### the law's own text -/
theorem sl2 {m n : Nat} {x y : Str} (h : Sm m x) (k : Sm n y) (hb : m + n ≤ 1000) : x.length + y.length ≤ sizeLine := Nat.le_trans (Nat.add_le_add h.1 k.1) (Nat.le_trans hb (by decide))
theorem r_ltext (n : Nat) {ld : Nms} {it : Its} (h : Raw ld it) {S : Hs} (hS : NR S) : (Mn (n + 2)).cal "_law_text" [rv ld it] S = .ok (.val (.str (txt ld it))) S := by
  rw [u__law_text]
  obtain ⟨ws1, ws2⟩ := words_sm h
  have n6 := h.fit.n6
  have i6 := h.fit.i6
  have c0 : Sm 1 ("=" : Str) := ⟨by decide, by decide⟩
  have c1 : Sm 1 (":" : Str) := ⟨by decide, by decide⟩
  have c2 : Sm 1 ("(" : Str) := ⟨by decide, by decide⟩
  have c3 : Sm 1 (")" : Str) := ⟨by decide, by decide⟩
  have names : evf (Mn (n + 1)) q1__law_text [some (rv ld it), none, none, none, none, none, none, none] S = .ok (.lst ((ld.map wN).map .str)) S := by
    unfold q1__law_text
    have e0 : (ld.map wN).map Vl.str = (valN ld).map fun v => match v with | .tup [.str z, .int t] => .str (wN (z, t)) | _ => .non := by
      unfold valN
      rw [List.map_map, List.map_map]; rfl
    rw [e0]
    refine ev_compM [] (valN ld) _ (ev_sq (v_idx (v_var rfl) v_cst (ix_tup (i := 0) rfl)) rfl) (lock_nil S) (by rw [valN_len]; omega) (fun x hx => by
      obtain ⟨p, _, rfl⟩ := List.mem_map.mp hx
      simp only [Vl.nr]) fun x hx acc ha => ?_
    obtain ⟨p, hp, rfl⟩ := List.mem_map.mp hx
    have hw := (h.hw p hp).sm
    exact ⟨_, rfl, v_bin (v_bin (v_var rfl) v_cst (b_adds (sl2 hw c0 (by omega)))) (v_call (r := .val (.str (mk p.2))) (vs_cons (v_var rfl) vs_nil) (r_lmark n (h.t6 hp) (hS.one (by simpa only [Ob.nr] using ha)))) (b_adds (sl2 (hw.app c0) (mk_sm (h.t6 hp)) (by omega)))⟩
  have loop : ∃ a4 a5 a6, forL (fun η1 S2 => exec (Mn (n + 1)) w3__law_text η1 S2) (.nm 4) [] (rngL 0 it.length) [some (rv ld it), some (.ref S.length), none, none, none, none, none, none] (S ++ [.lst ((ld.map wN).map .str)])
      = .nx [some (rv ld it), some (.ref S.length), none, none, a4, a5, a6, none] (S ++ [.lst ((words ld it).map .str)]) := by
    obtain ⟨η', S', g1, a4, a5, a6, e1, e2⟩ := for_ok (body := fun η1 S2 => exec (Mn (n + 1)) w3__law_text η1 S2) (t := .nm 4) (lk := []) (xs := rngL 0 it.length) (η := [some (rv ld it), some (.ref S.length), none, none, none, none, none, none]) (S := S ++ [.lst ((ld.map wN).map .str)])
      (fun i η S' => ∃ a4 a5 a6, η = [some (rv ld it), some (.ref S.length), none, none, a4, a5, a6, none] ∧ S' = S ++ [.lst ((ld.map wN ++ (wIs 1 it).take i).map .str)])
      ⟨none, none, none, rfl, by simp⟩ (fun i η S' _ => lock_nil _) fun i x η S' hx ⟨a4, a5, a6, e1, e2⟩ => by
        subst e1 e2
        obtain ⟨hi, rfl⟩ := rng_at hx
        have hp : it[i]? = some it[i] := List.getElem?_eq_getElem hi
        have hpm := List.getElem_mem hi
        generalize it[i] = p at hp hpm
        have hpt := h.i6 hpm
        have hI := h.hi p hpm
        have hS1 : NR (S ++ [.lst ((ld.map wN ++ (wIs 1 it).take i).map .str)]) := hS.one (by simp only [Ob.nr, nrs_map_str])
        have hj : (0 : Int) ≤ 1 + (i : Nat) ∧ (1 : Int) + (i : Nat) ≤ 7 := by omega
        have hq : evf (Mn (n + 1)) q2__law_text [some (rv ld it), some (.ref S.length), none, none, some (.int i), some (.str p.1), some (.tup (p.2.map .int)), none] (S ++ [.lst ((ld.map wN ++ (wIs 1 it).take i).map .str)]) = .ok (.lst ((p.2.map mk).map .str)) (S ++ [.lst ((ld.map wN ++ (wIs 1 it).take i).map .str)]) := by
          unfold q2__law_text
          have e0 : (p.2.map mk).map Vl.str = (p.2.map Vl.int).map fun v => match v with | .int t => .str (mk t) | _ => .non := by
            rw [List.map_map, List.map_map]; rfl
          rw [e0]
          refine ev_compM [] (p.2.map .int) _ (ev_sq (v_var rfl) rfl) (lock_nil _) (by rw [List.length_map]; have := hI.small; omega) (fun x hx => by
            obtain ⟨t, _, rfl⟩ := List.mem_map.mp hx
            simp only [Vl.nr]) fun x hx acc ha => ?_
          obtain ⟨t, ht, rfl⟩ := List.mem_map.mp hx
          exact ⟨_, rfl, v_call (r := .val (.str (mk t))) (vs_cons (v_var rfl) vs_nil) (r_lmark n (hpt t ht) (hS1.one (by simpa only [Ob.nr] using ha)))⟩
        have hjn : tmop .join (S ++ [.lst ((ld.map wN ++ (wIs 1 it).take i).map .str)]) "," (.lst ((p.2.map mk).map .str)) = some (.str (inn p)) := small_join (b := 2) (k := 1) rfl ⟨by decide, by decide⟩ (fun z hz => by
          obtain ⟨t, ht, rfl⟩ := List.mem_map.mp hz
          exact mk_sm (hpt t ht)) (by rw [List.length_map]; have := hI.small; omega)
        have hin := inn_sm hI hpt
        have k0 := sm_str hj
        have k1 := k0.app c1
        have k2 := k1.app hI.sm
        have k3 := k2.app c2
        have k4 := k3.app hin
        have ej : ((i : Int) + 1) = 1 + (i : Nat) := Int.add_comm _ _
        have ix : idxop (S ++ [.lst ((ld.map wN ++ (wIs 1 it).take i).map .str)]) (.lst (valI it)) (.int i) = some (.tup [.str p.1, .tup (p.2.map .int)]) := ix_lst (valI_get hp)
        refine ⟨_, rfl, _, _, .inl (ex_nx (x_asg _ _ (v_idx (v_idx (v_var rfl) v_cst (ix_tup (i := 1) rfl)) (v_var rfl) ix) rfl) (ex_nx (x_ex _ _ (v_mut (k := S.length) (ys := (ld.map wN ++ (wIs 1 it).take i).map .str) (v_var rfl) (lstAt_last _ _) (vs_cons (x := .str (wI (1 + (i : Nat)) p)) (v_bin (v_bin (v_bin (v_bin (v_bin (v_b1 (v_bin (v_var rfl) v_cst (b_add _ _)) (by rw [ej]; exact str_int (by omega))) v_cst (b_adds (sl2 k0 c1 (by omega)))) (v_var rfl) (b_adds (sl2 k1 hI.sm (by omega)))) v_cst (b_adds (sl2 k2 c2 (by omega)))) (v_join v_cst (v_inl hq) hjn) (b_adds (sl2 k3 hin (by omega)))) v_cst (b_adds (sl2 k4 c3 (by omega)))) vs_nil) List.getElem?_concat_length (mut_app ?_))) ex_nil)), _, _, _, rfl, ?_⟩
        · rw [List.length_map, List.length_append, List.length_map, List.length_take, wIs_len]; omega
        · rw [set_last, take_succ_at (wIs_at hp)]
          simp
    subst e1
    rw [rngL_len, List.take_of_length_le (by rw [wIs_len]; exact Nat.le_refl _)] at e2
    subst e2
    exact ⟨a4, a5, a6, g1⟩
  obtain ⟨a4, a5, a6, hlp⟩ := loop
  refine cal_val (T := [.lst ((words ld it).map .str)]) rfl ?_ hS (by simp only [Vl.nr])
  show exec (Mn (n + 1)) b__law_text [some (rv ld it), none, none, none, none, none, none, none] S = _
  have pd : pds ((words ld it).map Vl.str) = true := pds_of fun x hx => by
    obtain ⟨w, hw, rfl⟩ := List.mem_map.mp hx
    simp only [Vl.pd]; exact ok_of (ws1 w hw).2
  have dp : deps ((words ld it).map Vl.str) ≤ 0 := deps_of fun x hx => by
    obtain ⟨w, hw, rfl⟩ := List.mem_map.mp hx
    simp only [Vl.dep]; omega
  have ne := ne_nil (S := S ++ [.lst ((words ld it).map .str)]) (r := S.length) List.getElem?_concat_length pd (by omega)
  refine ex_nx (x_asg _ _ (v_alc names) rfl) (ex_nx (x_for _ _ _ (ev_rng1 (k := it.length) (v_b1 (v_idx (v_var rfl) v_cst (ix_tup (i := 1) rfl)) (by rw [len_lst, valI_len])) (by omega)) hlp) (ex_ret (x_ret _ _ ?_)))
  unfold txt
  by_cases c : words ld it = []
  · rw [if_pos c]
    rw [c] at ne ⊢
    exact v_ite0 (v_cmp (v_var rfl) (v_inl (f_lst vs_nil (show 0 ≤ 1000000 by decide))) ne) v_cst
  · rw [if_neg c]
    have e : ((words ld it).map Vl.str).isEmpty = false := by
      cases hw : words ld it with
      | nil => exact absurd hw c
      | cons w ws => rfl
    rw [e] at ne
    refine v_ite1 (v_cmp (v_var rfl) (v_inl (f_lst vs_nil (show 0 ≤ 1000000 by decide))) ne) (v_join v_cst (v_var rfl) (small_join (b := 15) (k := 1) (by simp only [seqOf, List.getElem?_concat_length]) ⟨by decide, by decide⟩ ws1 (by omega)))
/-! ### numbers turned about -/
def cT (n : Nat) : Int := if (5 * (n : Int) + 1) % 2 = 0 then 1 else (n : Int) - 1
def gT (n : Nat) (x : Int) : Int := if 0 < x then 1 + ((x - 1) * cT n + (5 * (n : Int) + 1)) % (n : Int) else x
theorem turn_fin : ∀ n ∈ List.range 7, (∀ x ∈ rngI n, gT n x ∈ rngI n) ∧ (∀ x ∈ rngI n, ∀ y ∈ rngI n, gT n x = gT n y → x = y) ∧ ∀ y ∈ rngI n, ∃ x ∈ rngI n, gT n x = y := by decide +kernel
def mTn (n i : Nat) (u : Int) : Option Int := if 1 ≤ u ∧ u ≤ i then some (gT n u) else base u
theorem mTn_all {n : Nat} {t : Int} (h : -1 ≤ t ∧ t ≤ n) : mTn n n t = some (gT n t) := by
  unfold mTn base gT
  by_cases c : 0 < t
  · rw [if_pos ⟨by omega, h.2⟩]
  · rw [if_neg (by omega), if_neg c]
    by_cases d : t = -1
    · rw [if_pos d, d]
    · rw [if_neg d, if_pos (show t = 0 by omega), show t = 0 by omega]
theorem mTn_succ {n i : Nat} (u : Int) : (if u = (i : Int) + 1 then some (gT n ((i : Int) + 1)) else mTn n i u) = mTn n (i + 1) u := by
  unfold mTn
  by_cases c : u = (i : Int) + 1
  · subst c
    rw [if_pos rfl, if_pos (by omega)]
  · rw [if_neg c]
    by_cases d : 1 ≤ u ∧ u ≤ i
    · rw [if_pos d, if_pos (by omega)]
    · rw [if_neg d, if_neg (by omega)]
def itV (p : Str × List Int) : Vl := .tup [.str p.1, .tup (p.2.map .int)]
theorem map_int_inj : ∀ {a b : List Int}, a.map Vl.int = b.map Vl.int → a = b
  | [], [], _ => rfl
  | [], _ :: _, h => by simp at h
  | _ :: _, [], h => by simp at h
  | x :: a, y :: b, h => by
    simp only [List.map_cons, List.cons.injEq, Vl.int.injEq] at h
    rw [h.1, map_int_inj h.2]
theorem itV_inj {p q : Str × List Int} (h : itV p = itV q) : p = q := by
  unfold itV at h
  simp only [Vl.tup.injEq, List.cons.injEq, Vl.str.injEq, and_true] at h
  exact Prod.ext h.1 (map_int_inj h.2)
theorem its_of : ∀ {L : List Vl}, (∀ v ∈ L, ∃ p, v = itV p) → ∃ it : Its, L = valI it
  | [], _ => ⟨[], rfl⟩
  | v :: L, h => by
    obtain ⟨p, rfl⟩ := h v List.mem_cons_self
    obtain ⟨it, rfl⟩ := its_of fun x hx => h x (List.mem_cons_of_mem _ hx)
    exact ⟨p :: it, rfl⟩
theorem nones_len : ∀ (k : Nat) (lo : Int), ((rngL lo k).map fun _ => Vl.non).length = k := fun k lo => by rw [List.length_map, rngL_len]
theorem cut_d {α : Type} (xs : List α) (c : Nat) : cutG xs (some (c : Int)) none = xs.drop c := by
  unfold cutG
  rw [HT.sIx_none, HT.sIx_nat]
  by_cases h : c ≤ xs.length
  · rw [Nat.min_eq_left h, List.take_of_length_le (by simp)]
  · rw [Nat.min_eq_right (by omega), List.drop_length, List.drop_of_length_le (by omega)]
    simp
theorem cut_t {α : Type} (xs : List α) (c : Nat) : cutG xs none (some (c : Int)) = xs.take c := by
  unfold cutG
  rw [HT.sIx_none, HT.sIx_nat]
  simp only [List.drop_zero, Nat.sub_zero]
  by_cases h : c ≤ xs.length
  · rw [Nat.min_eq_left h]
  · rw [Nat.min_eq_right (by omega), List.take_length, List.take_of_length_le (by omega)]
theorem r_turned (n : Nat) {ld : Nms} {it : Its} (h : Can ld it) {S : Hs} (hS : NR S) : ∃ nm' it', Turn ld it (gT it.length) nm' it' ∧ (Mn (n + 1)).cal "_law_turned" [rv ld it, .int (5 * (it.length : Int) + 1)] S = .ok (.val (rv nm' it')) S := by
  have hf := h.raw.fit
  have n6 := hf.n6
  have i6 := hf.i6
  obtain ⟨f1, f2, f3⟩ := turn_fin it.length (List.mem_range.mpr (by omega))
  -- the dict of new numbers
  have nums : ∃ a4 ks vs, forL (fun η1 S2 => exec (Mn n) w1__law_turned η1 S2) (.nm 4) [] (rngL 0 it.length) [some (rv ld it), some (.int (5 * (it.length : Int) + 1)), some (.int it.length), some (.ref S.length), none, none, none, none, none, none, none, none, none] (S ++ [.dct (putD [Sum.inl 0] [.int 0] (Sum.inl (-1)) (.int (-1))).1 (putD [Sum.inl 0] [.int 0] (Sum.inl (-1)) (.int (-1))).2])
      = .nx [some (rv ld it), some (.int (5 * (it.length : Int) + 1)), some (.int it.length), some (.ref S.length), a4, none, none, none, none, none, none, none, none] (S ++ [.dct ks vs]) ∧ Dm ks vs (mTn it.length it.length) := by
    obtain ⟨η', S', g1, a4, ks, vs, e1, e2, e3, e4⟩ := for_ok (body := fun η1 S2 => exec (Mn n) w1__law_turned η1 S2) (t := .nm 4) (lk := []) (xs := rngL 0 it.length) (η := [some (rv ld it), some (.int (5 * (it.length : Int) + 1)), some (.int it.length), some (.ref S.length), none, none, none, none, none, none, none, none, none]) (S := S ++ [.dct (putD [Sum.inl 0] [.int 0] (Sum.inl (-1)) (.int (-1))).1 (putD [Sum.inl 0] [.int 0] (Sum.inl (-1)) (.int (-1))).2])
      (fun i η S' => ∃ a4 ks vs, η = [some (rv ld it), some (.int (5 * (it.length : Int) + 1)), some (.int it.length), some (.ref S.length), a4, none, none, none, none, none, none, none, none] ∧ S' = S ++ [.dct ks vs] ∧ Dm ks vs (mTn it.length i) ∧ ks.length ≤ 2 + i)
      ⟨none, _, _, rfl, rfl, base_dm.congr fun t => by unfold mTn; rw [if_neg (by omega)], by decide⟩ (fun i η S' _ => lock_nil _) fun i x η S' hx ⟨a4, ks, vs, e1, e2, e3, e4⟩ => by
        subst e1 e2
        obtain ⟨hi, rfl⟩ := rng_at hx
        have hput := (put_len (k := Sum.inl ((i : Int) + 1)) (y := .int (gT it.length ((i : Int) + 1))) e3.1).2
        have ec : ev (Mn n) (.ite (.cmp .Eq (.bin .Mod (.var 1) (.cst (.int 2))) (.cst (.int 0))) (.cst (.int 1)) (.bin .Sub (.var 2) (.cst (.int 1)))) [some (rv ld it), some (.int (5 * (it.length : Int) + 1)), some (.int it.length), some (.ref S.length), some (.int i), none, none, none, none, none, none, none, none] (S ++ [.dct ks vs]) = .ok (.int (cT it.length)) (S ++ [.dct ks vs]) := by
          unfold cT
          by_cases c : (5 * (it.length : Int) + 1) % 2 = 0
          · rw [if_pos c]
            exact v_ite1 (v_cmp (v_bin (v_var rfl) v_cst (b_mod (by decide))) v_cst (congrArg some (decide_eq_true c))) v_cst
          · rw [if_neg c]
            exact v_ite0 (v_cmp (v_bin (v_var rfl) v_cst (b_mod (by decide))) v_cst (congrArg some (decide_eq_false c))) (v_bin (v_var rfl) v_cst (b_sub _ _))
        have eg : gT it.length ((i : Int) + 1) = 1 + ((i : Int) * cT it.length + (5 * (it.length : Int) + 1)) % (it.length : Int) := by
          unfold gT
          rw [if_pos (by omega), Int.add_sub_cancel]
        refine ⟨_, rfl, _, _, .inl (ex_nx (x_iset (y := .int (gT it.length ((i : Int) + 1))) (v_bin v_cst (v_bin (v_bin (v_bin (v_var rfl) ec (b_mulL (by omega) (by omega))) (v_var rfl) (b_add _ _)) (v_var rfl) (b_mod (by omega))) (by rw [eg]; exact b_add _ _)) (v_var rfl) (v_bin (v_var rfl) v_cst (b_add _ _)) (iset_dct (kk := Sum.inl ((i : Int) + 1)) List.getElem?_concat_length rfl (by omega))) ex_nil), _, _, _, rfl, by rw [set_last], (e3.put _ _).congr mTn_succ, by omega⟩
    subst e1 e2
    rw [rngL_len] at e3
    exact ⟨a4, ks, vs, g1, e3⟩
  obtain ⟨a4, ks, vs, hnum, hD⟩ := nums
  have ixA : ∀ (T : Hs) (t : Int), -1 ≤ t ∧ t ≤ it.length → idxop (S ++ [.dct ks vs] ++ T) (.ref S.length) (.int t) = some (.int (gT it.length t)) := fun T t g1 => by
    rw [ix_dct (ks := ks) (vs := vs) (by simp only [dctOf, app_get List.getElem?_concat_length]), hD.2.2 t, mTn_all g1]; rfl
  have eT : ∀ T : Hs, ∀ o : Ob, S ++ [.dct ks vs] ++ [o] = S ++ [.dct ks vs, o] := fun T o => by simp
  have hn1 : (S ++ [Ob.dct ks vs]).length = S.length + 1 := by simp
  -- the items in their new places
  have place : ∀ j : Nat, j < it.length → (gT it.length ((j : Int) + 1) - 1).toNat < it.length ∧ 1 ≤ gT it.length ((j : Int) + 1) := fun j hj => by
    have := rngI_mem.mp (f1 ((j : Int) + 1) (rngI_mem.mpr ⟨by omega, by omega⟩))
    omega
  have its : ∃ b4 b6 b7 L, forL (fun η1 S2 => exec (Mn n) w4__law_turned η1 S2) (.nm 4) [] (rngL 0 it.length) [some (rv ld it), some (.int (5 * (it.length : Int) + 1)), some (.int it.length), some (.ref S.length), a4, some (.ref (S.length + 1)), none, none, none, none, none, none, none] (S ++ [.dct ks vs, .lst ((rngL 0 it.length).map fun _ => .non)])
      = .nx [some (rv ld it), some (.int (5 * (it.length : Int) + 1)), some (.int it.length), some (.ref S.length), b4, some (.ref (S.length + 1)), b6, b7, none, none, none, none, none] (S ++ [.dct ks vs, .lst L]) ∧ L.length = it.length ∧ ∀ (j : Nat) (p : Str × List Int), it[j]? = some p → L[(gT it.length ((j : Int) + 1) - 1).toNat]? = some (itV (p.1, p.2.map (gT it.length))) := by
    obtain ⟨η', S', g1, b4, b6, b7, L, e1, e2, e3, e4⟩ := for_ok (body := fun η1 S2 => exec (Mn n) w4__law_turned η1 S2) (t := .nm 4) (lk := []) (xs := rngL 0 it.length) (η := [some (rv ld it), some (.int (5 * (it.length : Int) + 1)), some (.int it.length), some (.ref S.length), a4, some (.ref (S.length + 1)), none, none, none, none, none, none, none]) (S := S ++ [.dct ks vs, .lst ((rngL 0 it.length).map fun _ => .non)])
      (fun i η S' => ∃ b4 b6 b7 L, η = [some (rv ld it), some (.int (5 * (it.length : Int) + 1)), some (.int it.length), some (.ref S.length), b4, some (.ref (S.length + 1)), b6, b7, none, none, none, none, none] ∧ S' = S ++ [.dct ks vs, .lst L] ∧ L.length = it.length ∧ ∀ (j : Nat) (p : Str × List Int), j < i → it[j]? = some p → L[(gT it.length ((j : Int) + 1) - 1).toNat]? = some (itV (p.1, p.2.map (gT it.length))))
      ⟨a4, none, none, _, rfl, rfl, nones_len _ _, fun j p hj => by omega⟩ (fun i η S' _ => lock_nil _) fun i x η S' hx ⟨b4, b6, b7, L, e1, e2, e3, e4⟩ => by
        subst e1 e2
        obtain ⟨hi, rfl⟩ := rng_at hx
        have hp : it[i]? = some it[i] := List.getElem?_eq_getElem hi
        have hpm := List.getElem_mem hi
        generalize it[i] = p at hp hpm
        obtain ⟨pl1, pl2⟩ := place i hi
        have hq : evf (Mn n) q3__law_turned [some (rv ld it), some (.int (5 * (it.length : Int) + 1)), some (.int it.length), some (.ref S.length), some (.int i), some (.ref (S.length + 1)), some (.str p.1), some (.tup (p.2.map .int)), none, none, none, none, none] (S ++ [.dct ks vs, .lst L]) = .ok (.lst ((p.2.map (gT it.length)).map .int)) (S ++ [.dct ks vs, .lst L]) := by
          unfold q3__law_turned
          have e0 : (p.2.map (gT it.length)).map Vl.int = (p.2.map Vl.int).map fun v => match v with | .int t => .int (gT it.length t) | _ => .non := by
            rw [List.map_map, List.map_map]; rfl
          rw [e0]
          refine ev_compM [] (p.2.map .int) _ (ev_sq (v_var rfl) rfl) (lock_nil _) (by rw [List.length_map]; have := hf.h2 p hpm; omega) (fun x hx => by
            obtain ⟨t, _, rfl⟩ := List.mem_map.mp hx
            simp only [Vl.nr]) fun x hx acc ha => ?_
          obtain ⟨t, ht, rfl⟩ := List.mem_map.mp hx
          refine ⟨_, rfl, v_idx (v_var rfl) (v_var rfl) ?_⟩
          have := ixA ([.lst L] ++ [.lst acc]) t (hf.hi p hpm t ht)
          rw [← List.append_assoc, eT []] at this
          exact this
        have ix : idxop (S ++ [.dct ks vs, .lst L]) (.lst (valI it)) (.int i) = some (.tup [.str p.1, .tup (p.2.map .int)]) := ix_lst (valI_get hp)
        have ixg : idxop (S ++ [.dct ks vs, .lst L]) (.ref S.length) (.int ((i : Int) + 1)) = some (.int (gT it.length ((i : Int) + 1))) := by
          have := ixA [.lst L] ((i : Int) + 1) (by omega)
          rw [eT []] at this
          exact this
        have e7 : (gT it.length ((i : Int) + 1) - 1) = (((gT it.length ((i : Int) + 1) - 1).toNat : Nat) : Int) := by omega
        refine ⟨_, rfl, _, _, .inl (ex_nx (x_asg _ _ (v_idx (v_idx (v_var rfl) v_cst (ix_tup (i := 1) rfl)) (v_var rfl) ix) rfl) (ex_nx (x_iset (y := itV (p.1, p.2.map (gT it.length))) (v_tup (vs_cons (v_var rfl) (vs_cons (v_b1 (v_inl hq) rfl) vs_nil)) (show 2 ≤ 1000000 by decide)) (v_var rfl) (v_bin (v_idx (v_var rfl) (v_bin (v_var rfl) v_cst (b_add _ _)) ixg) v_cst (by rw [b_sub, e7])) (iset_lst g1 (by rw [e3]; exact pl1))) ex_nil)), _, _, _, _, rfl, by rw [s1], by rw [List.length_set]; exact e3, fun j q hj hq' => ?_⟩
        rw [List.getElem?_set]
        by_cases c : j = i
        · subst c
          rw [hp] at hq'
          cases hq'
          rw [if_pos rfl, if_pos (by rw [e3]; exact pl1)]
        · have hjl := (List.getElem?_eq_some_iff.mp hq').1
          have ne : (gT it.length ((i : Int) + 1) - 1).toNat ≠ (gT it.length ((j : Int) + 1) - 1).toNat := fun z => by
            have := (place j hjl).2
            have e8 : gT it.length ((i : Int) + 1) = gT it.length ((j : Int) + 1) := by omega
            have := f2 _ (rngI_mem.mpr ⟨by omega, by omega⟩) _ (rngI_mem.mpr ⟨by omega, by omega⟩) e8
            omega
          rw [if_neg ne]
          exact e4 j q (by omega) hq'
    subst e1 e2
    exact ⟨b4, b6, b7, L, g1, e3, fun j p hp => e4 j p (by rw [rngL_len]; exact (List.getElem?_eq_some_iff.mp hp).1) hp⟩
  obtain ⟨b4, b6, b7, L, hits, hL, hLp⟩ := its
  -- as items
  have inv : ∀ y : Nat, y < it.length → ∃ (j : Nat) (p : Str × List Int), it[j]? = some p ∧ (gT it.length ((j : Int) + 1) - 1).toNat = y := fun y hy => by
    obtain ⟨x, hx, e⟩ := f3 ((y : Int) + 1) (rngI_mem.mpr ⟨by omega, by omega⟩)
    have hx' := rngI_mem.mp hx
    have hxl : (x - 1).toNat < it.length := by omega
    refine ⟨(x - 1).toNat, it[(x - 1).toNat], List.getElem?_eq_getElem hxl, ?_⟩
    have : (((x - 1).toNat : Nat) : Int) + 1 = x := by omega
    rw [this, e]
    omega
  obtain ⟨it', rfl⟩ := its_of (L := L) fun v hv => by
    obtain ⟨y, hy⟩ := List.getElem?_of_mem hv
    obtain ⟨j, p, hp, e⟩ := inv y (by rw [← hL]; exact (List.getElem?_eq_some_iff.mp hy).1)
    have := hLp j p hp
    rw [e, hy] at this
    exact ⟨_, Option.some.inj this⟩
  rw [valI_len] at hL
  have names : evf (Mn n) q5__law_turned [some (rv ld it), some (.int (5 * (it.length : Int) + 1)), some (.int it.length), some (.ref S.length), b4, some (.ref (S.length + 1)), b6, b7, none, none, none, none, none] (S ++ [.dct ks vs, .lst (valI it')]) = .ok (.lst (valN (ld.map fun p => (p.1, gT it.length p.2)))) (S ++ [.dct ks vs, .lst (valI it')]) := by
    unfold q5__law_turned
    have e0 : valN (ld.map fun p => (p.1, gT it.length p.2)) = (valN ld).map fun v => match v with | .tup [.str z, .int t] => .tup [.str z, .int (gT it.length t)] | _ => .non := by
      unfold valN
      rw [List.map_map, List.map_map]; rfl
    rw [e0]
    refine ev_compM [] (valN ld) _ (ev_sq (v_idx (v_var rfl) v_cst (ix_tup (i := 0) rfl)) rfl) (lock_nil _) (by rw [valN_len]; omega) (fun x hx => by
      obtain ⟨p, _, rfl⟩ := List.mem_map.mp hx
      simp only [Vl.nr, nrs, Bool.and_self]) fun x hx acc ha => ?_
    obtain ⟨p, hp, rfl⟩ := List.mem_map.mp hx
    refine ⟨_, rfl, v_tup (vs_cons (v_var rfl) (vs_cons (v_idx (v_var rfl) (v_var rfl) ?_) vs_nil)) (show 2 ≤ 1000000 by decide)⟩
    have := ixA ([.lst (valI it')] ++ [.lst acc]) p.2 (hf.ht p hp)
    rw [← List.append_assoc, eT []] at this
    exact this
  generalize hnm : (ld.map fun p => (p.1, gT it.length p.2)) = nm0 at names
  have hc0 := Int.emod_nonneg (5 * (it.length : Int) + 1) (show (nm0.length : Int) + 1 ≠ 0 by omega)
  obtain ⟨c, hc⟩ : ∃ c : Nat, (5 * (it.length : Int) + 1) % ((nm0.length : Int) + 1) = c := ⟨_, (Int.toNat_of_nonneg hc0).symm⟩
  have eN : valN (nm0.drop c ++ nm0.take c) = (valN nm0).drop c ++ (valN nm0).take c := by
    unfold valN
    rw [List.map_append, List.map_drop, List.map_take]
  refine ⟨nm0.drop c ++ nm0.take c, it', ⟨rfl, rfl, ⟨fun a b ha hb e => f2 a (rngI_mem.mpr ha) b (rngI_mem.mpr hb) e, fun a ha => by have := (rngI_mem.mp (f1 a (rngI_mem.mpr ha))).1; omega, fun a ha => by unfold gT; rw [if_neg (by omega)]; exact ha⟩, fun x hx => rngI_mem.mp (f1 x (rngI_mem.mpr hx)), hL, fun x hx => ?_, fun y hy => ?_, ?_⟩, ?_⟩
  · obtain ⟨p, hp, e1, e2⟩ := it_at hx
    have := hLp _ p hp
    have ex : (((x - 1).toNat : Nat) : Int) + 1 = x := by have := hx.1; omega
    rw [ex] at this
    unfold valI at this
    rw [List.getElem?_map] at this
    obtain ⟨q, hq, eq⟩ := Option.map_eq_some_iff.mp this
    rw [e1, e2, hq]
    exact congrArg some (itV_inj eq)
  · obtain ⟨x, hx, e⟩ := f3 y (rngI_mem.mpr hy)
    exact ⟨x, rngI_mem.mp hx, e⟩
  · rw [hnm]
    exact ((List.take_append_drop c nm0).symm ▸ List.perm_append_comm : (nm0.take c ++ nm0.drop c).Perm (nm0.drop c ++ nm0.take c)) |> fun q => by rwa [List.take_append_drop] at q
  · rw [u__law_turned]
    have e9 : rv (nm0.drop c ++ nm0.take c) it' = .tup [.lst (valN (nm0.drop c ++ nm0.take c)), (Ob.lst (valI it')).inl] := rfl
    rw [e9]
    refine cal_tupref (T := [.dct ks vs, .lst (valI it')]) (r := S.length + 1) rfl ?_ hS (by simp only [Vl.nr, valN_nr]) (by omega) g1 (by simp only [Ob.nr, valI_nr])
    show exec (Mn n) b__law_turned [some (rv ld it), some (.int (5 * (it.length : Int) + 1)), none, none, none, none, none, none, none, none, none, none, none] S = _
    have hd : evf (Mn n) (.dspk [Sum.inl 0] (.cons (.cst (.int 0)) .nil)) [some (rv ld it), some (.int (5 * (it.length : Int) + 1)), some (.int it.length), none, none, none, none, none, none, none, none, none, none] S = .ok (.dct [Sum.inl 0] [.int 0]) S :=
      f_dspk (vs_cons v_cst vs_nil) (by simp [nrs, Vl.nr]) (by decide) rfl (by decide)
    have hno : evf (Mn n) q2__law_turned [some (rv ld it), some (.int (5 * (it.length : Int) + 1)), some (.int it.length), some (.ref S.length), a4, none, none, none, none, none, none, none, none] (S ++ [.dct ks vs]) = .ok (.lst ((rngL 0 it.length).map fun _ => .non)) (S ++ [.dct ks vs]) := by
      unfold q2__law_turned
      exact ev_compM [] (rngL 0 it.length) (fun _ => .non) (ev_rng1 (v_var rfl) (by omega)) (lock_nil _) (by rw [rngL_len]; omega) (fun x _ => by simp only [Vl.nr]) fun x hx acc _ => ⟨_, rfl, v_cst⟩
    refine ex_nx (x_asg (.int it.length) _ (v_b1 (v_idx (v_var rfl) v_cst (ix_tup (i := 1) rfl)) (by rw [len_lst, valI_len])) rfl) (ex_nx (x_asg _ _ (v_alc hd) rfl) (ex_nx (x_iset (v_bin v_cst v_cst (show binop .Sub (.int 0) (.int 1) = some (.int (-1)) from rfl)) (v_var rfl) (v_bin v_cst v_cst (show binop .Sub (.int 0) (.int 1) = some (.int (-1)) from rfl)) (iset_dct (kk := Sum.inl (-1)) List.getElem?_concat_length rfl (show 1 ≤ 1000000 by decide))) ?_))
    rw [set_last]
    have hal := v_alc hno
    rw [hn1, eT []] at hal
    have cat : evf (Mn n) (.cat (.inl (.slc (.var 9) (.some (.var 12)) .none)) (.inl (.slc (.var 9) .none (.some (.var 12))))) [some (rv ld it), some (.int (5 * (it.length : Int) + 1)), some (.int it.length), some (.ref S.length), b4, some (.ref (S.length + 1)), b6, b7, none, some (.lst (valN nm0)), none, none, some (.int c)] (S ++ [.dct ks vs, .lst (valI it')]) = .ok (.lst (valN (nm0.drop c ++ nm0.take c))) (S ++ [.dct ks vs, .lst (valI it')]) := by
      rw [eN]
      have hl0 : nm0.length ≤ 6 := by rw [← hnm, List.length_map]; exact n6
      refine f_cat (xs := (valN nm0).drop c) (ys := (valN nm0).take c) (v_inl (f_slc (v_var rfl) (o_some (v_var rfl)) o_none rfl)) (v_inl (f_slc (v_var rfl) o_none (o_some (v_var rfl)) rfl)) ?_ ?_ ?_
      · rw [cut_d]; rfl
      · rw [cut_t]; rfl
      · rw [List.length_drop, List.length_take, valN_len]; omega
    exact ex_nx (x_for _ _ _ (ev_rng1 (v_var rfl) (by omega)) hnum) (ex_nx (x_asg _ _ hal rfl) (ex_nx (x_for _ _ _ (ev_rng1 (v_var rfl) (by omega)) hits) (ex_nx (x_asg _ _ (v_inl names) rfl) (ex_nx (x_asg (.int c) _ (v_bin (v_var rfl) (v_bin (v_b1 (v_var rfl) (len_lst _ _)) v_cst (b_add _ _)) (by rw [valN_len, b_mod (by omega), hc])) rfl) (ex_ret (x_ret _ _ (v_tup (vs_cons (v_inl cat) (vs_cons (v_var rfl) vs_nil)) (show 2 ≤ 1000000 by decide))))))))
end K03
set_option Elab.async false
set_option linter.all false
set_option maxRecDepth 100000
set_option maxHeartbeats 4000000
namespace K03
open PySem L2 Oz

/-! ### a heap with one thing ahead of the new ones -/
section
variable {S T : Hs} {o o' p : Ob}
theorem gA : (S ++ o :: T)[S.length]? = some o := by simp
theorem sA : (S ++ o :: T).set S.length o' = S ++ o' :: T := by simp
theorem aA : S ++ o :: T ++ [p] = S ++ o :: (T ++ [p]) := by simp
theorem lA : (S ++ o :: T).length = S.length + 1 + T.length := by simp; omega
theorem gB : (S ++ o :: (T ++ [p]))[S.length + 1 + T.length]? = some p := by
  rw [show S ++ o :: (T ++ [p]) = (S ++ o :: T) ++ [p] by simp, ← lA (S := S) (T := T) (o := o)]
  exact List.getElem?_concat_length
theorem sB : (S ++ o :: (T ++ [p])).set (S.length + 1 + T.length) o' = S ++ o :: (T ++ [o']) := by
  rw [show S ++ o :: (T ++ [p]) = (S ++ o :: T) ++ [p] by simp, ← lA (S := S) (T := T) (o := o), set_last]
  simp
theorem nA (hS : NR S) (ho : o.nr = true) (hT : NR T) : NR (S ++ o :: T) := by
  have : S ++ o :: T = S ++ [o] ++ T := by simp
  rw [this]
  exact (hS.one ho).app hT
end
theorem rngI_succ (n : Nat) : rngI (n + 1) = rngI n ++ [(n : Int) + 1] := by
  unfold rngI
  rw [List.range_succ, List.map_append]; rfl
theorem put_rng {n : Nat} {vs : List Vl} {y : Vl} : putD ((rngI n).map (Sum.inl : Int → Key)) vs (Sum.inl ((n : Int) + 1)) y = ((rngI (n + 1)).map Sum.inl, vs ++ [y]) := by
  rw [put_new_ (fun h => by
    obtain ⟨x, hx, e⟩ := List.mem_map.mp h
    have := rngI_mem.mp hx
    have := Sum.inl.inj e
    omega), rngI_succ, List.map_append]; rfl
theorem valI_snoc (it : Its) (p : Str × List Int) : valI (it ++ [p]) = valI it ++ [itV p] := by
  unfold valI
  rw [List.map_append]; rfl
theorem r_spots (n : Nat) {it : Its} (hl : it.length ≤ 100) {S : Hs} (hS : NR S) : (Mn (n + 1)).cal "_law_spots" [.lst (valI it)] S = .ok (.frs (spD (valI it))) S := by
  rw [u__law_spots]
  obtain ⟨η', S', g1, a2, e1, e2⟩ := for_ok (body := fun η1 S2 => exec (Mn n) w1__law_spots η1 S2) (t := .nm 2) (lk := []) (xs := rngL 0 it.length) (η := [some (.lst (valI it)), some (.ref S.length), none]) (S := S ++ [.dct [] []])
    (fun i η S' => ∃ a2, η = [some (.lst (valI it)), some (.ref S.length), a2] ∧ S' = S ++ [.dct ((rngI i).map Sum.inl) (valI (it.take i))])
    ⟨none, rfl, rfl⟩ (fun i η S' _ => lock_nil _) fun i x η S' hx ⟨a2, e1, e2⟩ => by
      subst e1 e2
      obtain ⟨hi, rfl⟩ := rng_at hx
      have hp : it[i]? = some it[i] := List.getElem?_eq_getElem hi
      generalize it[i] = p at hp
      refine ⟨_, rfl, _, _, .inl (ex_nx (x_iset (y := itV p) (v_idx (v_var rfl) (v_var rfl) (ix_lst (valI_get hp))) (v_var rfl) (v_bin (v_var rfl) v_cst (b_add _ _)) (iset_dct (kk := Sum.inl ((i : Int) + 1)) List.getElem?_concat_length rfl (by rw [List.length_map, rngI_len]; omega))) ex_nil), _, rfl, ?_⟩
      rw [set_last, put_rng, take_succ_at hp, valI_snoc]
  subst e1
  rw [rngL_len, List.take_length] at e2
  subst e2
  have es : spD (valI it) = .dct ((rngI it.length).map Sum.inl) (valI it) := by unfold spD; rw [valI_len]
  rw [es]
  refine cal_ref (T := [.dct ((rngI it.length).map Sum.inl) (valI it)]) (r := 0) rfl ?_ hS rfl (by simp only [Ob.nr, valI_nr])
  show exec (Mn n) b__law_spots [some (.lst (valI it)), none, none] S = _
  exact ex_nx (x_asg _ _ (v_alc f_dct0) rfl) (ex_nx (x_for _ _ _ (ev_rng1 (v_b1 (v_var rfl) (by rw [len_lst, valI_len])) (by omega)) g1) (ex_ret (x_ret _ _ (v_var rfl))))
/-! ### one drawn point -/
def wordsV : Vl := .lst [.tup [.str "list", .int 0], .tup [.str "seg", .int 1]]
abbrev sr (ns : List Int) (k many size lean turning : Nat) (fs : List Str) (r : Nat) (i : Option Vl) (a11 a12 a13 a14 a15 a16 a17 a18 a19 a20 : Option Vl) : Sg :=
  [some (zs ns), some (.int k), some wordsV, some (.int 6), some (.int many), some (.int size), some (.int lean), some (.int turning), some (.lst (fs.map .str)), some (.ref r), i, a11, a12, a13, a14, a15, a16, a17, a18, a19, a20]
abbrev InT (n : Nat) (x : Int) : Prop := -1 ≤ x ∧ x ≤ n
theorem set2 {n : Nat} {x y v d : Int} (hx : InT n x) (hy : InT n y) (hv : InT n v) (hd : 0 ≤ d) : ∃ x' y', InT n x' ∧ InT n y' ∧ ∃ j : Nat, d % 2 = j ∧ j < 2 ∧ ([Vl.int x, .int y] : List Vl).set j (.int v) = [.int x', .int y'] := by
  have h0 := Int.emod_nonneg d (show (2 : Int) ≠ 0 by omega)
  have h1 := Int.emod_lt_of_pos d (show (0 : Int) < 2 by omega)
  have : d % 2 = 0 ∨ d % 2 = 1 := by omega
  rcases this with e | e
  · exact ⟨v, y, hv, hy, 0, e, by omega, rfl⟩
  · exact ⟨x, v, hx, hv, 1, e, by omega, rfl⟩
theorem mod_in {a : Int} {n : Nat} : InT n (a % ((n : Int) + 1)) := by
  have h0 := Int.emod_nonneg a (show ((n : Int) + 1) ≠ 0 by omega)
  have h1 := Int.emod_lt_of_pos a (show (0 : Int) < (n : Int) + 1 by omega)
  exact ⟨by omega, by omega⟩
theorem raw_step (n : Nat) (ns : List Int) {k many size lean turning i : Nat} {fs : List Str} (hi : i < size) (h6 : size ≤ 6) {its : Its} (hl : its.length = i) {S T : Hs} (hS : NR S) (hT : NR T) (a11 a12 a13 a14 a15 a16 a17 a18 a19 a20 : Option Vl) :
    ∃ b11 b12 b13 b14 b15 b16 b17 T' p, NR T' ∧ Item size p ∧ exec (Mn (n + 2)) w1__law_raw (sr ns k many size lean turning fs S.length (some (.int i)) a11 a12 a13 a14 a15 a16 a17 a18 a19 a20) (S ++ .dct ((rngI i).map Sum.inl) (valI its) :: T)
      = .nx (sr ns k many size lean turning fs S.length (some (.int i)) b11 b12 b13 b14 b15 b16 b17 a18 a19 a20) (S ++ .dct ((rngI (i + 1)).map Sum.inl) (valI (its ++ [p])) :: T') := by
  have hN : NR (S ++ .dct ((rngI i).map Sum.inl) (valI its) :: T) := nA hS (by simp only [Ob.nr, valI_nr]) hT
  obtain ⟨ds, hd, hc⟩ := r_digits n ns (k := k + 2 + i) (sizes := [4, 60, 60, 12]) (by decide) (by decide) hN
  obtain ⟨w, l, r, far, rfl, hw, hlr, hrr, hfr⟩ := digs4 hd
  -- the word
  obtain ⟨z, pl, hz, hp2, hev⟩ : ∃ z pl, ((z = ("cell" : Str) ∧ pl = 2) ∨ (z = ("list" : Str) ∧ pl = 0) ∨ (z = ("seg" : Str) ∧ pl = 1)) ∧ pl ≤ 2 ∧ ∀ (b12 b13 b14 b15 b16 b17 : Option Vl) (U : Hs), ev (Mn (n + 2)) (.ite (.cmp .Lt (.var 11) (.b1 .len (.var 2))) (.idx (.var 2) (.var 11)) (.tup (.cons (.cst (.str "cell")) (.cons (.cst (.int 2)) .nil)))) (sr ns k many size lean turning fs S.length (some (.int i)) (some (.int w)) b12 b13 b14 b15 b16 b17 a18 a19 a20) U = .ok (.tup [.str z, .int (pl : Nat)]) U := by
    have hcase : w = 0 ∨ w = 1 ∨ 2 ≤ w := by omega
    rcases hcase with rfl | rfl | hw2
    · exact ⟨"list", 0, .inr (.inl ⟨rfl, rfl⟩), by omega, fun _ _ _ _ _ _ U => v_ite1 (v_cmp (v_var rfl) (v_b1 (v_var rfl) rfl) rfl) (v_idx (v_var rfl) (v_var rfl) (ix_lst (i := 0) rfl))⟩
    · exact ⟨"seg", 1, .inr (.inr ⟨rfl, rfl⟩), by omega, fun _ _ _ _ _ _ U => v_ite1 (v_cmp (v_var rfl) (v_b1 (v_var rfl) rfl) rfl) (v_idx (v_var rfl) (v_var rfl) (ix_lst (i := 1) rfl))⟩
    · exact ⟨"cell", 2, .inl ⟨rfl, rfl⟩, by omega, fun _ _ _ _ _ _ U => v_ite0 (v_cmp (v_var rfl) (v_b1 (v_var rfl) rfl) (show some (decide (w < ((2 : Nat) : Int))) = some false from congrArg some (decide_eq_false (by omega)))) (v_tup (vs_cons v_cst (vs_cons v_cst vs_nil)) (show 2 ≤ 1000000 by decide))⟩
  -- the targets
  have t1 : InT size (l % ((size : Int) + 1)) := mod_in
  have t2 : InT size (r % ((size : Int) + 1)) := mod_in
  have c1 : ∃ x y, InT size x ∧ InT size y ∧ exc1 (Mn (n + 2)) (.ite (.cmp .Eq (.var 14) (.cst (.int 0))) (.cons (.iset (.var 17) (.bin .Mod (.var 12) (.cst (.int 2))) (.bin .Sub (.cst (.int 0)) (.cst (.int 1)))) .nil) .nil) (sr ns k many size lean turning fs S.length (some (.int i)) (some (.int w)) (some (.int l)) (some (.int r)) (some (.int far)) (some (.str z)) (some (.int (pl : Nat))) (some (.ref (S.length + 1 + T.length))) a18 a19 a20) (S ++ .dct ((rngI i).map Sum.inl) (valI its) :: (T ++ [.lst [.int (l % ((size : Int) + 1)), .int (r % ((size : Int) + 1))]]))
      = .nx (sr ns k many size lean turning fs S.length (some (.int i)) (some (.int w)) (some (.int l)) (some (.int r)) (some (.int far)) (some (.str z)) (some (.int (pl : Nat))) (some (.ref (S.length + 1 + T.length))) a18 a19 a20) (S ++ .dct ((rngI i).map Sum.inl) (valI its) :: (T ++ [.lst [.int x, .int y]])) := by
    by_cases c : far = 0
    · obtain ⟨x, y, hx, hy, j, ej, hj, es⟩ := set2 (d := l) (v := -1) t1 t2 ⟨by omega, by omega⟩ (by omega)
      refine ⟨x, y, hx, hy, x_ite1 _ (v_cmp (v_var rfl) v_cst (congrArg some (decide_eq_true c))) (ex_nx (x_iset (v_bin v_cst v_cst (show binop .Sub (.int 0) (.int 1) = some (.int (-1)) from rfl)) (v_var rfl) (v_bin (v_var rfl) v_cst (by rw [b_mod (by decide), ej])) (iset_lst gB (by simpa using hj))) ?_)⟩
      rw [sB, es]; exact ex_nil
    · exact ⟨_, _, t1, t2, x_ite0 _ (v_cmp (v_var rfl) v_cst (congrArg some (decide_eq_false c))) ex_nil⟩
  obtain ⟨x, y, hx, hy, e1⟩ := c1
  have c2 : ∃ x' y', InT size x' ∧ InT size y' ∧ exc1 (Mn (n + 2)) (.ite (.band (.cmp .Gt (.var 14) (.cst (.int 5))) (.cmp .Gt (.var 6) (.cst (.int 0)))) (.cons (.iset (.var 17) (.bin .Mod (.var 13) (.cst (.int 2))) (.mn (.var 5) (.bin .Add (.var 10) (.cst (.int 2))))) .nil) .nil) (sr ns k many size lean turning fs S.length (some (.int i)) (some (.int w)) (some (.int l)) (some (.int r)) (some (.int far)) (some (.str z)) (some (.int (pl : Nat))) (some (.ref (S.length + 1 + T.length))) a18 a19 a20) (S ++ .dct ((rngI i).map Sum.inl) (valI its) :: (T ++ [.lst [.int x, .int y]]))
      = .nx (sr ns k many size lean turning fs S.length (some (.int i)) (some (.int w)) (some (.int l)) (some (.int r)) (some (.int far)) (some (.str z)) (some (.int (pl : Nat))) (some (.ref (S.length + 1 + T.length))) a18 a19 a20) (S ++ .dct ((rngI i).map Sum.inl) (valI its) :: (T ++ [.lst [.int x', .int y']])) := by
    have hb : ∃ b, ev (Mn (n + 2)) (.band (.cmp .Gt (.var 14) (.cst (.int 5))) (.cmp .Gt (.var 6) (.cst (.int 0)))) (sr ns k many size lean turning fs S.length (some (.int i)) (some (.int w)) (some (.int l)) (some (.int r)) (some (.int far)) (some (.str z)) (some (.int (pl : Nat))) (some (.ref (S.length + 1 + T.length))) a18 a19 a20) (S ++ .dct ((rngI i).map Sum.inl) (valI its) :: (T ++ [.lst [.int x, .int y]])) = .ok (.bl b) (S ++ .dct ((rngI i).map Sum.inl) (valI its) :: (T ++ [.lst [.int x, .int y]])) := by
      by_cases c : 5 < far
      · exact ⟨_, v_and1 (v_cmp (v_var rfl) v_cst (congrArg some (decide_eq_true c))) (v_cmp (v_var rfl) v_cst rfl)⟩
      · exact ⟨_, v_and0 (v_cmp (v_var rfl) v_cst (congrArg some (decide_eq_false c)))⟩
    obtain ⟨b, hb⟩ := hb
    cases b with
    | true =>
      obtain ⟨x', y', hx', hy', j, ej, hj, es⟩ := set2 (d := r) (v := if (i : Int) + 2 < (size : Int) then (i : Int) + 2 else (size : Int)) hx hy (by split <;> exact ⟨by omega, by omega⟩) (by omega)
      refine ⟨x', y', hx', hy', x_ite1 _ hb (ex_nx (x_iset (v_mn (v_var rfl) (v_bin (v_var rfl) v_cst (b_add _ _))) (v_var rfl) (v_bin (v_var rfl) v_cst (by rw [b_mod (by decide), ej])) (iset_lst gB (by simpa using hj))) ?_)⟩
      rw [sB, es]; exact ex_nil
    | false => exact ⟨_, _, hx, hy, x_ite0 _ hb ex_nil⟩
  obtain ⟨x', y', hx', hy', e2⟩ := c2
  have hcut : cutG [Vl.int x', .int y'] none (some ((pl : Nat) : Int)) = (([x', y'] : List Int).take pl).map .int := by
    rw [cut_t, List.map_take]; rfl
  have hItem : Item size (z, ([x', y'] : List Int).take pl) := by
    refine ⟨?_, fun t ht => ?_⟩
    · rcases hz with ⟨rfl, rfl⟩ | ⟨rfl, rfl⟩ | ⟨rfl, rfl⟩
      · exact .inl ⟨rfl, rfl⟩
      · exact .inr (.inl ⟨rfl, rfl⟩)
      · exact .inr (.inr ⟨rfl, rfl⟩)
    · have := List.mem_of_mem_take ht
      simp only [List.mem_cons, List.not_mem_nil, or_false] at this
      rcases this with rfl | rfl
      · exact hx'
      · exact hy'
  have ek : ((k : Int) + 2 + (i : Int)) = ((k + 2 + i : Nat) : Int) := by omega
  have s1' : exc1 (Mn (n + 2)) (.asg (.tp (.cons (.nm 11) (.cons (.nm 12) (.cons (.nm 13) (.cons (.nm 14) .nil))))) (.call "_law_digits" (.cons (.var 0) (.cons (.bin .Add (.bin .Add (.var 1) (.cst (.int 2))) (.var 10)) (.cons (.inl (.lst (.cons (.bin .Add (.b1 .len (.var 2)) (.cst (.int 2))) (.cons (.cst (.int 60)) (.cons (.cst (.int 60)) (.cons (.cst (.int 12)) .nil)))))) .nil))))) (sr ns k many size lean turning fs S.length (some (.int i)) a11 a12 a13 a14 a15 a16 a17 a18 a19 a20) (S ++ .dct ((rngI i).map Sum.inl) (valI its) :: T)
      = .nx (sr ns k many size lean turning fs S.length (some (.int i)) (some (.int w)) (some (.int l)) (some (.int r)) (some (.int far)) a15 a16 a17 a18 a19 a20) (S ++ .dct ((rngI i).map Sum.inl) (valI its) :: T) :=
    x_asg _ _ (v_call (vs_cons (v_var rfl) (vs_cons (v_bin (v_bin (v_var rfl) v_cst (b_add _ _)) (v_var rfl) (by rw [b_add, ek])) (vs_cons (v_inl (f_lst (vs_cons (v_bin (v_b1 (v_var rfl) rfl) v_cst (show binop .Add (.int ((2 : Nat) : Int)) (.int 2) = some (.int 4) from rfl)) (vs_cons v_cst (vs_cons v_cst (vs_cons v_cst vs_nil)))) (show 4 ≤ 1000000 by decide))) vs_nil))) hc) rfl
  have s2' : exc1 (Mn (n + 2)) (.asg (.tp (.cons (.nm 15) (.cons (.nm 16) .nil))) (.ite (.cmp .Lt (.var 11) (.b1 .len (.var 2))) (.idx (.var 2) (.var 11)) (.tup (.cons (.cst (.str "cell")) (.cons (.cst (.int 2)) .nil))))) (sr ns k many size lean turning fs S.length (some (.int i)) (some (.int w)) (some (.int l)) (some (.int r)) (some (.int far)) a15 a16 a17 a18 a19 a20) (S ++ .dct ((rngI i).map Sum.inl) (valI its) :: T)
      = .nx (sr ns k many size lean turning fs S.length (some (.int i)) (some (.int w)) (some (.int l)) (some (.int r)) (some (.int far)) (some (.str z)) (some (.int (pl : Nat))) a17 a18 a19 a20) (S ++ .dct ((rngI i).map Sum.inl) (valI its) :: T) :=
    x_asg _ _ (hev _ _ _ _ _ _ _) rfl
  have s3' : exc1 (Mn (n + 2)) (.asg (.nm 17) (.alc (.lst (.cons (.bin .Mod (.var 12) (.bin .Add (.var 5) (.cst (.int 1)))) (.cons (.bin .Mod (.var 13) (.bin .Add (.var 5) (.cst (.int 1)))) .nil))))) (sr ns k many size lean turning fs S.length (some (.int i)) (some (.int w)) (some (.int l)) (some (.int r)) (some (.int far)) (some (.str z)) (some (.int (pl : Nat))) a17 a18 a19 a20) (S ++ .dct ((rngI i).map Sum.inl) (valI its) :: T)
      = .nx (sr ns k many size lean turning fs S.length (some (.int i)) (some (.int w)) (some (.int l)) (some (.int r)) (some (.int far)) (some (.str z)) (some (.int (pl : Nat))) (some (.ref (S.length + 1 + T.length))) a18 a19 a20) (S ++ .dct ((rngI i).map Sum.inl) (valI its) :: (T ++ [.lst [.int (l % ((size : Int) + 1)), .int (r % ((size : Int) + 1))]])) := by
    have := v_alc (M := Mn (n + 2)) (η := sr ns k many size lean turning fs S.length (some (.int i)) (some (.int w)) (some (.int l)) (some (.int r)) (some (.int far)) (some (.str z)) (some (.int (pl : Nat))) a17 a18 a19 a20) (S := S ++ .dct ((rngI i).map Sum.inl) (valI its) :: T) (f_lst (vs_cons (v_bin (a := .var 12) (v_var rfl) (v_bin (a := .var 5) (b := .cst (.int 1)) (v_var rfl) v_cst (b_add _ _)) (b_mod (by omega))) (vs_cons (v_bin (a := .var 13) (v_var rfl) (v_bin (a := .var 5) (b := .cst (.int 1)) (v_var rfl) v_cst (b_add _ _)) (b_mod (by omega))) vs_nil)) (show 2 ≤ 1000000 by decide))
    rw [aA, lA] at this
    exact x_asg _ _ this rfl
  have s6' : exc1 (Mn (n + 2)) (.iset (.var 9) (.bin .Add (.var 10) (.cst (.int 1))) (.tup (.cons (.var 15) (.cons (.b1 .tuple (.inl (.slc (.var 17) .none (.some (.var 16))))) .nil)))) (sr ns k many size lean turning fs S.length (some (.int i)) (some (.int w)) (some (.int l)) (some (.int r)) (some (.int far)) (some (.str z)) (some (.int (pl : Nat))) (some (.ref (S.length + 1 + T.length))) a18 a19 a20) (S ++ .dct ((rngI i).map Sum.inl) (valI its) :: (T ++ [.lst [.int x', .int y']]))
      = .nx (sr ns k many size lean turning fs S.length (some (.int i)) (some (.int w)) (some (.int l)) (some (.int r)) (some (.int far)) (some (.str z)) (some (.int (pl : Nat))) (some (.ref (S.length + 1 + T.length))) a18 a19 a20) (S ++ .dct ((rngI (i + 1)).map Sum.inl) (valI (its ++ [(z, ([x', y'] : List Int).take pl)])) :: (T ++ [.lst [.int x', .int y']])) := by
    have htup : b1op .tuple (S ++ .dct ((rngI i).map Sum.inl) (valI its) :: (T ++ [.lst [.int x', .int y']])) (Ob.lst (cutG [Vl.int x', .int y'] none (some ((pl : Nat) : Int)))).inl = some (.tup ((([x', y'] : List Int).take pl).map .int)) := by
      rw [hcut]; rfl
    have := x_iset (M := Mn (n + 2)) (η := (sr ns k many size lean turning fs S.length (some (.int i)) (some (.int w)) (some (.int l)) (some (.int r)) (some (.int far)) (some (.str z)) (some (.int (pl : Nat))) (some (.ref (S.length + 1 + T.length))) a18 a19 a20)) (S := S ++ .dct ((rngI i).map Sum.inl) (valI its) :: (T ++ [.lst [.int x', .int y']])) (y := itV (z, ([x', y'] : List Int).take pl)) (a := .var 9) (b := .bin .Add (.var 10) (.cst (.int 1))) (e := .tup (.cons (.var 15) (.cons (.b1 .tuple (.inl (.slc (.var 17) .none (.some (.var 16))))) .nil))) (v_tup (vs_cons (v_var rfl) (vs_cons (v_b1 (v_inl (f_slc (xs := [.int x', .int y']) (v_var rfl) o_none (o_some (v_var rfl)) (by simp only [lstOf, gB]))) htup) vs_nil)) (show 2 ≤ 1000000 by decide)) (v_var rfl) (v_bin (v_var rfl) v_cst (b_add _ _)) (iset_dct (kk := Sum.inl ((i : Int) + 1)) gA rfl (by rw [List.length_map, rngI_len]; omega))
    rw [sA, put_rng, ← valI_snoc] at this
    exact this
  exact ⟨_, _, _, _, _, _, _, T ++ [.lst [.int x', .int y']], (z, ([x', y'] : List Int).take pl), hT.one (by simp [Ob.nr, nrs, Vl.nr]), hItem, ex_nx s1' (ex_nx s2' (ex_nx s3' (ex_nx e1 (ex_nx e2 (ex_nx s6' ex_nil)))))⟩
end K03
set_option Elab.async false
set_option linter.all false
set_option maxRecDepth 100000
set_option maxHeartbeats 4000000
namespace K03
open PySem L2 Oz

/-! ### names' targets written -/
def setN (z : Str) (y : Int) (nm : Nms) : Nms := nm.map fun p => (p.1, if p.1 = z then y else p.2)
theorem setN_fst (z : Str) (y : Int) (nm : Nms) : (setN z y nm).map (·.1) = nm.map (·.1) := by
  unfold setN
  rw [List.map_map]; rfl
theorem setN_mem {z : Str} {y : Int} {nm : Nms} {p : Str × Int} (h : p ∈ setN z y nm) : p.2 = y ∨ p ∈ nm := by
  obtain ⟨q, hq, rfl⟩ := List.mem_map.mp h
  by_cases c : q.1 = z
  · exact .inl (by simp only [if_pos c])
  · exact .inr (by simp only [if_neg c]; exact hq)
theorem rep_ld (z : Str) (y : Int) : ∀ nm : Nms, repD (Sum.inr z) (.int y) (nm.map fun p => (Sum.inr p.1 : Key)) (nm.map fun p => Vl.int p.2) = (setN z y nm).map fun p => Vl.int p.2
  | [] => rfl
  | p :: nm => by
    have ih := rep_ld z y nm
    unfold setN at ih ⊢
    simp only [List.map_cons, repD]
    rw [ih]
    by_cases c : p.1 = z
    · rw [if_pos (by rw [c]), if_pos c]
    · rw [if_neg (fun h => c (Sum.inr.inj h)), if_neg c]
theorem put_ld {z : Str} {y : Int} {nm : Nms} (h : z ∈ nm.map (·.1)) : putD (nm.map fun p => (Sum.inr p.1 : Key)) (nm.map fun p => Vl.int p.2) (Sum.inr z) (.int y) = ((setN z y nm).map fun p => Sum.inr p.1, (setN z y nm).map fun p => Vl.int p.2) := by
  unfold putD
  rw [if_pos, rep_ld]
  · congr 1
    unfold setN
    rw [List.map_map]; rfl
  · obtain ⟨p, hp, e⟩ := List.mem_map.mp h
    exact List.any_eq_true.mpr ⟨Sum.inr p.1, List.mem_map.mpr ⟨p, hp, rfl⟩, decide_eq_true (by rw [e])⟩
theorem put_ldn {z : Str} {y : Int} {nm : Nms} (h : z ∉ nm.map (·.1)) : putD (nm.map fun p => (Sum.inr p.1 : Key)) (nm.map fun p => Vl.int p.2) (Sum.inr z) (.int y) = ((nm ++ [(z, y)]).map fun p => Sum.inr p.1, (nm ++ [(z, y)]).map fun p => Vl.int p.2) := by
  rw [put_new_ (fun hk => by
    obtain ⟨p, hp, e⟩ := List.mem_map.mp hk
    exact h (List.mem_map.mpr ⟨p, hp, Sum.inr.inj e⟩))]
  simp
theorem raw_name (n : Nat) (ns : List Int) {k many size lean turning i : Nat} {fs : List Str} {z : Str} (hz : fs[i]? = some z) (nd : fs.Nodup) (hf : fs.length ≤ 6) (h6 : size ≤ 6) (ht : turning ≤ 100) {nm : Nms} (hnm : nm.map (·.1) = fs.take i) {S T : Hs} {sp : Ob} (hS : NR S) (hsp : sp.nr = true) (hT : NR T) (a11 a12 a13 a14 a15 a16 a17 a19 a20 : Option Vl) :
    ∃ b19 b20 v, InT size v ∧ exec (Mn (n + 2)) w2__law_raw (sr ns k many size lean turning fs S.length (some (.int i)) a11 a12 a13 a14 a15 a16 a17 (some (.ref (S.length + 1 + T.length))) a19 a20) (S ++ sp :: (T ++ [ldD nm]))
      = .nx (sr ns k many size lean turning fs S.length (some (.int i)) a11 a12 a13 a14 a15 a16 a17 (some (.ref (S.length + 1 + T.length))) b19 b20) (S ++ sp :: (T ++ [ldD (nm ++ [(z, v)])])) := by
  have hN : NR (S ++ sp :: (T ++ [ldD nm])) := nA hS hsp (hT.one (by simp only [ldD, Ob.nr, nrs_ints]))
  obtain ⟨ds, hd, hc⟩ := r_digits n ns (k := k + 3 + i) (sizes := [90, 9]) (by decide) (by decide) hN
  obtain ⟨one, gone, rfl, h1, h2⟩ := digs2 hd
  have ek : ((k : Int) + 3 + (i : Int)) = ((k + 3 + i : Nat) : Int) := by omega
  have hil : i < fs.length := (List.getElem?_eq_some_iff.mp hz).1
  have s1' : exc1 (Mn (n + 2)) (.asg (.tp (.cons (.nm 19) (.cons (.nm 20) .nil))) (.call "_law_digits" (.cons (.var 0) (.cons (.bin .Add (.bin .Add (.var 1) (.cst (.int 3))) (.var 10)) (.cons (.inl (.lst (.cons (.cst (.int 90)) (.cons (.cst (.int 9)) .nil)))) .nil))))) (sr ns k many size lean turning fs S.length (some (.int i)) a11 a12 a13 a14 a15 a16 a17 (some (.ref (S.length + 1 + T.length))) a19 a20) (S ++ sp :: (T ++ [ldD nm]))
      = .nx (sr ns k many size lean turning fs S.length (some (.int i)) a11 a12 a13 a14 a15 a16 a17 (some (.ref (S.length + 1 + T.length))) (some (.int one)) (some (.int gone))) (S ++ sp :: (T ++ [ldD nm])) :=
    x_asg _ _ (v_call (vs_cons (v_var rfl) (vs_cons (v_bin (v_bin (v_var rfl) v_cst (b_add _ _)) (v_var rfl) (by rw [b_add, ek])) (vs_cons (v_inl (f_lst (vs_cons v_cst (vs_cons v_cst vs_nil)) (show 2 ≤ 1000000 by decide))) vs_nil))) hc) rfl
  have val : ∃ v, InT size v ∧ ev (Mn (n + 2)) (.ite (.cmp .Eq (.var 20) (.cst (.int 0))) (.bin .Sub (.cst (.int 0)) (.cst (.int 1))) (.bin .Mod (.bin .Add (.var 19) (.bin .Mult (.var 7) (.var 10))) (.bin .Add (.var 5) (.cst (.int 1))))) (sr ns k many size lean turning fs S.length (some (.int i)) a11 a12 a13 a14 a15 a16 a17 (some (.ref (S.length + 1 + T.length))) (some (.int one)) (some (.int gone))) (S ++ sp :: (T ++ [ldD nm])) = .ok (.int v) (S ++ sp :: (T ++ [ldD nm])) := by
    by_cases c : gone = 0
    · exact ⟨-1, ⟨by omega, by omega⟩, v_ite1 (v_cmp (v_var rfl) v_cst (congrArg some (decide_eq_true c))) (v_bin v_cst v_cst (show binop .Sub (.int 0) (.int 1) = some (.int (-1)) from rfl))⟩
    · exact ⟨_, mod_in (a := one + (turning : Int) * (i : Int)), v_ite0 (v_cmp (v_var rfl) v_cst (congrArg some (decide_eq_false c))) (v_bin (v_bin (v_var rfl) (v_bin (v_var rfl) (v_var rfl) (b_mulL (by omega) (by omega))) (b_add _ _)) (v_bin (v_var rfl) v_cst (b_add _ _)) (b_mod (by omega)))⟩
  obtain ⟨v, hv, hev⟩ := val
  refine ⟨some (.int one), some (.int gone), v, hv, ex_nx s1' (ex_nx (x_iset hev (v_var rfl) (v_idx (v_var rfl) (v_var rfl) (ix_lst (by rw [List.getElem?_map, hz]; rfl))) (iset_dct (kk := Sum.inr z) gB rfl (by have := congrArg List.length hnm; rw [List.length_map, List.length_take] at this; rw [List.length_map]; omega))) ?_)⟩
  rw [sB, put_ldn (by rw [hnm]; exact not_in_take nd hz)]
  exact ex_nil
theorem r_raw (n : Nat) (ns : List Int) {k : Nat} {S : Hs} (hS : NR S) : ∃ nm it, Raw nm it ∧ 1 ≤ nm.length ∧ (Mn (n + 4)).cal "_law_raw" [zs ns, .int k, wordsV, .int 6] S = .ok (.val (rv (canN nm it) (canI nm it))) S := by
  obtain ⟨ds, hd, hc⟩ := r_digits (n + 1) ns (k := k) (sizes := [5, 7, 4, 97]) (by decide) (by decide) hS
  obtain ⟨many, size, lean, turning, rfl, h1, h2, h3, h4⟩ := digs4 hd
  obtain ⟨many, rfl⟩ : ∃ m : Nat, many = m := ⟨many.toNat, by omega⟩
  obtain ⟨size, rfl⟩ : ∃ m : Nat, size = m := ⟨size.toNat, by omega⟩
  obtain ⟨lean, rfl⟩ : ∃ m : Nat, lean = m := ⟨lean.toNat, by omega⟩
  obtain ⟨turning, rfl⟩ : ∃ m : Nat, turning = m := ⟨turning.toNat, by omega⟩
  obtain ⟨fs, hfs, hfl, hcn⟩ := r_lnames n ns (k := k + 1) (many := 1 + many) (by omega) hS
  have i6 : size ≤ 6 := by omega
  -- points
  have pts : ∃ b10 b11 b12 b13 b14 b15 b16 b17 T it, NR T ∧ it.length = size ∧ (∀ p ∈ it, Item size p) ∧ forL (fun η1 S2 => exec (Mn (n + 3)) w1__law_raw η1 S2) (.nm 10) [] (rngL 0 size) (sr ns k many size lean turning fs S.length none none none none none none none none none none none) (S ++ .dct ((rngI 0).map Sum.inl) (valI []) :: [])
      = .nx (sr ns k many size lean turning fs S.length b10 b11 b12 b13 b14 b15 b16 b17 none none none) (S ++ spD (valI it) :: T) := by
    obtain ⟨η', S', g1, b10, b11, b12, b13, b14, b15, b16, b17, T, it, e1, e2, hT, hl, hit⟩ := for_ok (body := fun η1 S2 => exec (Mn (n + 3)) w1__law_raw η1 S2) (t := .nm 10) (lk := []) (xs := rngL 0 size) (η := sr ns k many size lean turning fs S.length none none none none none none none none none none none) (S := S ++ .dct ((rngI 0).map Sum.inl) (valI []) :: [])
      (fun i η S' => ∃ b10 b11 b12 b13 b14 b15 b16 b17 T it, η = sr ns k many size lean turning fs S.length b10 b11 b12 b13 b14 b15 b16 b17 none none none ∧ S' = S ++ .dct ((rngI i).map Sum.inl) (valI it) :: T ∧ NR T ∧ it.length = i ∧ ∀ p ∈ it, Item size p)
      ⟨none, none, none, none, none, none, none, none, [], [], rfl, rfl, NR.nil, rfl, fun p h => by cases h⟩ (fun i η S' _ => lock_nil _) fun i x η S' hx ⟨b10, b11, b12, b13, b14, b15, b16, b17, T, it, e1, e2, hT, hl, hit⟩ => by
        subst e1 e2
        obtain ⟨hi, rfl⟩ := rng_at hx
        obtain ⟨c11, c12, c13, c14, c15, c16, c17, T', p, hT', hp, he⟩ := raw_step (n + 1) ns (k := k) (many := many) (size := size) (lean := lean) (turning := turning) (fs := fs) hi i6 hl hS hT b11 b12 b13 b14 b15 b16 b17 none none none
        refine ⟨_, rfl, _, _, .inl he, _, _, _, _, _, _, _, _, T', it ++ [p], rfl, rfl, hT', by simp [hl], fun q hq => ?_⟩
        rcases List.mem_append.mp hq with hq | hq
        · exact hit q hq
        · rw [List.mem_singleton.mp hq]; exact hp
    subst e1
    rw [rngL_len] at e2 hl
    have es : spD (valI it) = .dct ((rngI size).map Sum.inl) (valI it) := by unfold spD; rw [valI_len, hl]
    rw [← es] at e2
    subst e2
    exact ⟨b10, b11, b12, b13, b14, b15, b16, b17, T, it, hT, hl, hit, g1⟩
  obtain ⟨b10, b11, b12, b13, b14, b15, b16, b17, T, it, hT, hil, hit, hpts⟩ := pts
  have hspn : (spD (valI it)).nr = true := by simp only [spD, Ob.nr, valI_nr]
  -- names
  have nms : ∃ c10 b19 b20 nm, nm.map (·.1) = fs ∧ (∀ p ∈ nm, InT size p.2) ∧ forL (fun η1 S2 => exec (Mn (n + 3)) w2__law_raw η1 S2) (.nm 10) [] (rngL 0 fs.length) (sr ns k many size lean turning fs S.length b10 b11 b12 b13 b14 b15 b16 b17 (some (.ref (S.length + 1 + T.length))) none none) (S ++ spD (valI it) :: (T ++ [ldD []]))
      = .nx (sr ns k many size lean turning fs S.length c10 b11 b12 b13 b14 b15 b16 b17 (some (.ref (S.length + 1 + T.length))) b19 b20) (S ++ spD (valI it) :: (T ++ [ldD nm])) := by
    obtain ⟨η', S', g1, c10, b19, b20, nm, e1, e2, e3, e4⟩ := for_ok (body := fun η1 S2 => exec (Mn (n + 3)) w2__law_raw η1 S2) (t := .nm 10) (lk := []) (xs := rngL 0 fs.length) (η := sr ns k many size lean turning fs S.length b10 b11 b12 b13 b14 b15 b16 b17 (some (.ref (S.length + 1 + T.length))) none none) (S := S ++ spD (valI it) :: (T ++ [ldD []]))
      (fun i η S' => ∃ c10 b19 b20 nm, η = sr ns k many size lean turning fs S.length c10 b11 b12 b13 b14 b15 b16 b17 (some (.ref (S.length + 1 + T.length))) b19 b20 ∧ S' = S ++ spD (valI it) :: (T ++ [ldD nm]) ∧ nm.map (·.1) = fs.take i ∧ ∀ p ∈ nm, InT size p.2)
      ⟨b10, none, none, [], rfl, rfl, rfl, fun p h => by cases h⟩ (fun i η S' _ => lock_nil _) fun i x η S' hx ⟨c10, b19, b20, nm, e1, e2, e3, e4⟩ => by
        subst e1 e2
        obtain ⟨hi, rfl⟩ := rng_at hx
        have hz : fs[i]? = some fs[i] := List.getElem?_eq_getElem hi
        obtain ⟨d19, d20, v, hv, he⟩ := raw_name (n + 1) ns (k := k) (many := many) (size := size) (lean := lean) (turning := turning) hz hfs.nd (by omega) i6 (by omega) e3 hS hspn hT b11 b12 b13 b14 b15 b16 b17 b19 b20
        refine ⟨_, rfl, _, _, .inl he, _, _, _, nm ++ [(fs[i], v)], rfl, rfl, by rw [take_succ_at hz, List.map_append, e3]; rfl, fun q hq => ?_⟩
        rcases List.mem_append.mp hq with hq | hq
        · exact e4 q hq
        · rw [List.mem_singleton.mp hq]; exact hv
    subst e1 e2
    rw [rngL_len, List.take_length] at e3
    exact ⟨c10, b19, b20, nm, e3, e4, g1⟩
  obtain ⟨c10, b19, b20, nm, hnf, hnt, hnms⟩ := nms
  have nml : nm.length = 1 + many := by rw [← hfl, ← hnf, List.length_map]
  -- the first name on the first point
  have fst : ∃ nm', nm'.map (·.1) = fs ∧ (∀ p ∈ nm', InT size p.2) ∧ exc1 (Mn (n + 3)) (.ite (.band (.cmp .Gt (.var 5) (.cst (.int 0))) (.cmp .Lt (.var 6) (.cst (.int 3)))) (.cons (.iset (.var 18) (.idx (.var 8) (.cst (.int 0))) (.cst (.int 1))) .nil) .nil) (sr ns k many size lean turning fs S.length c10 b11 b12 b13 b14 b15 b16 b17 (some (.ref (S.length + 1 + T.length))) b19 b20) (S ++ spD (valI it) :: (T ++ [ldD nm]))
      = .nx (sr ns k many size lean turning fs S.length c10 b11 b12 b13 b14 b15 b16 b17 (some (.ref (S.length + 1 + T.length))) b19 b20) (S ++ spD (valI it) :: (T ++ [ldD nm'])) := by
    have hb : ∃ b, (b = true → 1 ≤ size) ∧ ev (Mn (n + 3)) (.band (.cmp .Gt (.var 5) (.cst (.int 0))) (.cmp .Lt (.var 6) (.cst (.int 3)))) (sr ns k many size lean turning fs S.length c10 b11 b12 b13 b14 b15 b16 b17 (some (.ref (S.length + 1 + T.length))) b19 b20) (S ++ spD (valI it) :: (T ++ [ldD nm])) = .ok (.bl b) (S ++ spD (valI it) :: (T ++ [ldD nm])) := by
      by_cases c : (0 : Int) < (size : Int)
      · exact ⟨decide ((lean : Int) < 3), fun _ => by omega, v_and1 (v_cmp (v_var rfl) v_cst (congrArg some (decide_eq_true c))) (v_cmp (v_var rfl) v_cst rfl)⟩
      · exact ⟨false, fun h => (by cases h), v_and0 (v_cmp (v_var rfl) v_cst (congrArg some (decide_eq_false c)))⟩
    obtain ⟨b, hb1, hb⟩ := hb
    cases b with
    | true =>
      have h1' := hb1 rfl
      have h0 : 0 < fs.length := by omega
      have hz : fs[0]? = some fs[0] := List.getElem?_eq_getElem h0
      have hzm : fs[0] ∈ nm.map (·.1) := by rw [hnf]; exact List.getElem_mem h0
      refine ⟨setN fs[0] 1 nm, by rw [setN_fst]; exact hnf, fun p hp => ?_, x_ite1 _ hb (ex_nx (x_iset v_cst (v_var rfl) (v_idx (v_var rfl) v_cst (ix_lst (i := 0) (by rw [List.getElem?_map, hz]; rfl))) (iset_dct (kk := Sum.inr fs[0]) gB rfl (by rw [List.length_map]; omega))) ?_)⟩
      · rcases setN_mem hp with e | e
        · rw [e]; exact ⟨by omega, by omega⟩
        · exact hnt p e
      · rw [sB, put_ld hzm]
        exact ex_nil
    | false => exact ⟨nm, hnf, hnt, x_ite0 _ hb ex_nil⟩
  obtain ⟨nm', hnf', hnt', he⟩ := fst
  have nml' : nm'.length = 1 + many := by rw [← hfl, ← hnf', List.length_map]
  have raw : Raw nm' it := by
    refine ⟨⟨by rw [hnf']; exact hfs.nd, by omega, by omega, fun p hp t ht => by rw [hil]; exact (hit p hp).t t ht, fun p hp => by rw [hil]; exact hnt' p hp, fun p hp => (hit p hp).small⟩, fun p hp => hfs.w p.1 (by rw [← hnf']; exact List.mem_map.mpr ⟨p, hp, rfl⟩), fun p hp => by rw [hil]; exact hit p hp⟩
  refine ⟨nm', it, raw, by omega, ?_⟩
  rw [u__law_raw]
  refine cal_val (T := spD (valI it) :: (T ++ [ldD nm'])) rfl ?_ hS (rv_nr _ _)
  show exec (Mn (n + 3)) b__law_raw [some (zs ns), some (.int k), some wordsV, some (.int 6), none, none, none, none, none, none, none, none, none, none, none, none, none, none, none, none, none] S = _
  have hN : NR (S ++ spD (valI it) :: (T ++ [ldD nm'])) := nA hS hspn (hT.one (by simp only [ldD, Ob.nr, nrs_ints]))
  have ek : ((k : Int) + 1) = ((k + 1 : Nat) : Int) := by omega
  have em : ((1 : Int) + (many : Int)) = ((1 + many : Nat) : Int) := by omega
  have hln : b1op .len (S ++ spD (valI it) :: (T ++ [ldD []])) (.lst (fs.map .str)) = some (.int fs.length) := by rw [len_lst, List.length_map]
  have a5 := v_alc (M := Mn (n + 3)) (η := sr ns k many size lean turning fs S.length b10 b11 b12 b13 b14 b15 b16 b17 none none none) (S := S ++ spD (valI it) :: T) f_dct0
  rw [aA, lA] at a5
  have fin := r_canon (n + 1) raw.fit (S := S ++ spD (valI it) :: (T ++ [ldD nm'])) (r1 := S.length + 1 + T.length) (r2 := S.length) hN gB gA
  have z1 : exc1 (Mn (n + 3)) (.asg (.tp (.cons (.nm 4) (.cons (.nm 5) (.cons (.nm 6) (.cons (.nm 7) .nil))))) (.call "_law_digits" (.cons (.var 0) (.cons (.var 1) (.cons (.inl (.lst (.cons (.cst (.int 5)) (.cons (.bin .Add (.var 3) (.cst (.int 1))) (.cons (.cst (.int 4)) (.cons (.cst (.int 97)) .nil)))))) .nil))))) [some (zs ns), some (.int k), some wordsV, some (.int 6), none, none, none, none, none, none, none, none, none, none, none, none, none, none, none, none, none] S
      = .nx [some (zs ns), some (.int k), some wordsV, some (.int 6), some (.int many), some (.int size), some (.int lean), some (.int turning), none, none, none, none, none, none, none, none, none, none, none, none, none] S :=
    x_asg _ _ (v_call (vs_cons (v_var rfl) (vs_cons (v_var rfl) (vs_cons (v_inl (f_lst (vs_cons v_cst (vs_cons (v_bin (v_var rfl) v_cst (show binop .Add (.int 6) (.int 1) = some (.int 7) from rfl)) (vs_cons v_cst (vs_cons v_cst vs_nil)))) (show 4 ≤ 1000000 by decide))) vs_nil))) hc) rfl
  have z2 : exc1 (Mn (n + 3)) (.asg (.nm 8) (.call "_law_names" (.cons (.var 0) (.cons (.bin .Add (.var 1) (.cst (.int 1))) (.cons (.bin .Add (.cst (.int 1)) (.var 4)) .nil))))) [some (zs ns), some (.int k), some wordsV, some (.int 6), some (.int many), some (.int size), some (.int lean), some (.int turning), none, none, none, none, none, none, none, none, none, none, none, none, none] S
      = .nx [some (zs ns), some (.int k), some wordsV, some (.int 6), some (.int many), some (.int size), some (.int lean), some (.int turning), some (.lst (fs.map .str)), none, none, none, none, none, none, none, none, none, none, none, none] S :=
    x_asg _ _ (v_call (vs_cons (v_var rfl) (vs_cons (v_bin (v_var rfl) v_cst (by rw [b_add, ek])) (vs_cons (v_bin v_cst (v_var rfl) (by rw [b_add, em])) vs_nil))) hcn) rfl
  have z3 : exc1 (Mn (n + 3)) (.asg (.nm 9) (.alc (.dspk [] .nil))) [some (zs ns), some (.int k), some wordsV, some (.int 6), some (.int many), some (.int size), some (.int lean), some (.int turning), some (.lst (fs.map .str)), none, none, none, none, none, none, none, none, none, none, none, none] S
      = .nx (sr ns k many size lean turning fs S.length none none none none none none none none none none none) (S ++ .dct ((rngI 0).map Sum.inl) (valI []) :: []) := x_asg _ _ (v_alc f_dct0) rfl
  have z5 : exc1 (Mn (n + 3)) (.asg (.nm 18) (.alc (.dspk [] .nil))) (sr ns k many size lean turning fs S.length b10 b11 b12 b13 b14 b15 b16 b17 none none none) (S ++ spD (valI it) :: T)
      = .nx (sr ns k many size lean turning fs S.length b10 b11 b12 b13 b14 b15 b16 b17 (some (.ref (S.length + 1 + T.length))) none none) (S ++ spD (valI it) :: (T ++ [ldD []])) := x_asg _ _ a5 rfl
  exact ex_nx z1 (ex_nx z2 (ex_nx z3 (ex_nx (x_for _ _ _ (ev_rng1 (v_var rfl) (by omega)) hpts) (ex_nx z5 (ex_nx (x_for _ _ _ (ev_rng1 (v_b1 (v_var rfl) hln) (by omega)) hnms) (ex_nx he (ex_ret (x_ret _ _ (v_call (r := .val (rv (canN nm' it) (canI nm' it))) (vs_cons (v_var rfl) (vs_cons (v_var rfl) vs_nil)) fin)))))))))
end K03
set_option Elab.async false
set_option linter.all false
set_option maxRecDepth 100000
set_option maxHeartbeats 4000000
namespace K03
open PySem L2 Oz

/-! ### one point written over -/
theorem rep_at {x : Int} {y : Vl} : ∀ {F : List Int} {vs : List Vl} {j : Nat}, F.Nodup → F.length = vs.length → F[j]? = some x → repD (Sum.inl x) y (F.map (Sum.inl : Int → Key)) vs = vs.set j y
  | [], vs, j, _, _, h => by simp at h
  | a :: F, [], j, _, h, _ => by simp at h
  | a :: F, v :: vs, 0, nd, hl, h => by
    have ha : a = x := by simpa using h
    have hno : ∀ (G : List Int) (us : List Vl), x ∉ G → G.length = us.length → repD (Sum.inl x) y (G.map (Sum.inl : Int → Key)) us = us := by
      intro G
      induction G with
      | nil => intro us _ h; cases us with
        | nil => rfl
        | cons u us => simp at h
      | cons g G ih => intro us hg h; cases us with
        | nil => simp at h
        | cons u us =>
          simp only [List.map_cons, repD]
          rw [if_neg (fun e => hg (by rw [Sum.inl.inj e]; exact List.mem_cons_self)), ih us (fun h => hg (List.mem_cons_of_mem _ h)) (by simpa using h)]
    subst ha
    simp only [List.map_cons, repD, if_true, List.set_cons_zero]
    rw [hno F vs (List.nodup_cons.mp nd).1 (by simpa using hl)]
  | a :: F, v :: vs, j + 1, nd, hl, h => by
    have hx : F[j]? = some x := by simpa using h
    have ha : a ≠ x := fun e => (List.nodup_cons.mp nd).1 (by rw [e]; exact List.mem_of_getElem? hx)
    simp only [List.map_cons, repD, List.set_cons_succ]
    rw [if_neg (fun e => ha (Sum.inl.inj e)), rep_at (List.nodup_cons.mp nd).2 (by simpa using hl) hx]
theorem put_sp {vs : List Vl} {j : Nat} {y : Vl} (hj : j < vs.length) : putD ((rngI vs.length).map (Sum.inl : Int → Key)) vs (Sum.inl ((1 : Int) + j)) y = ((rngI vs.length).map Sum.inl, vs.set j y) := by
  unfold putD
  rw [if_pos, rep_at (rngI_nodup _) (rngI_len _) (by rw [rngI_at hj]; congr 1; omega)]
  exact List.any_eq_true.mpr ⟨Sum.inl ((1 : Int) + j), List.mem_map.mpr ⟨_, rngI_mem.mpr ⟨by omega, by omega⟩, rfl⟩, decide_eq_true rfl⟩
theorem valI_set (it : Its) (j : Nat) (p : Str × List Int) : (valI it).set j (itV p) = valI (it.set j p) := by
  unfold valI
  rw [List.map_set]; rfl
theorem allKP_valN : ∀ ld : Nms, allKP (valN ld) = some (ld.map fun p => ((Sum.inr p.1 : Key), Vl.int p.2))
  | [] => rfl
  | p :: ld => by
    have ih := allKP_valN ld
    unfold valN at ih ⊢
    simp only [List.map_cons, allKP, Vl.key, ih, Option.map_some]
theorem dct_valN {S : Hs} {ld : Nms} (nd : (ld.map (·.1)).Nodup) : dctpop S (.lst (valN ld)) = some (ldD ld) := by
  unfold dctpop
  have : (lstOf S (.lst (valN ld))).bind allKP = some (ld.map fun p => ((Sum.inr p.1 : Key), Vl.int p.2)) := allKP_valN ld
  rw [this]
  have nd' : (ld.map fun p => (Sum.inr p.1 : Key)).Nodup := by
    have := nodup_map (f := (Sum.inr : Str → Key)) (fun a b h => Sum.inr.inj h) nd
    rwa [List.map_map] at this
  have e : ((ld.map fun p => ((Sum.inr p.1 : Key), Vl.int p.2)).map (·.1)) = ld.map fun p => (Sum.inr p.1 : Key) := by rw [List.map_map]; rfl
  have e2 : ((ld.map fun p => ((Sum.inr p.1 : Key), Vl.int p.2)).map (·.2)) = ld.map fun p => Vl.int p.2 := by rw [List.map_map]; rfl
  have := mergeD_new (ps := ld.map fun p => ((Sum.inr p.1 : Key), Vl.int p.2)) (ks := []) (vs := []) (by rw [e]; exact nd')
  simp only [this, e, e2, List.nil_append]
  rfl
theorem Raw.setN {ld : Nms} {it : Its} (h : Raw ld it) (z : Str) {y : Int} (hy : InT it.length y) : Raw (setN z y ld) it := by
  have hl : (K03.setN z y ld).length = ld.length := by unfold K03.setN; rw [List.length_map]
  refine ⟨⟨by rw [setN_fst]; exact h.fit.nd, by rw [hl]; exact h.fit.n6, h.fit.i6, h.fit.hi, fun p hp => ?_, h.fit.h2⟩, fun p hp => ?_, h.hi⟩
  · rcases setN_mem hp with e | e
    · rw [e]; exact hy
    · exact h.fit.ht p e
  · have : p.1 ∈ (K03.setN z y ld).map (·.1) := List.mem_map.mpr ⟨p, hp, rfl⟩
    rw [setN_fst] at this
    obtain ⟨q, hq, e⟩ := List.mem_map.mp this
    rw [← e]; exact h.hw q hq
theorem Raw.setI {ld : Nms} {it : Its} (h : Raw ld it) (j : Nat) {p : Str × List Int} (hp : Item it.length p) : Raw ld (it.set j p) := by
  have key : ∀ q ∈ it.set j p, Item it.length q := fun q hq => by
    rcases List.mem_or_eq_of_mem_set hq with e | e
    · exact h.hi q e
    · rw [e]; exact hp
  have hl : (it.set j p).length = it.length := List.length_set
  exact ⟨⟨h.fit.nd, h.fit.n6, by rw [hl]; exact h.fit.i6, fun q hq t ht => by rw [hl]; exact (key q hq).t t ht, fun q hq => by rw [hl]; exact h.fit.ht q hq, fun q hq => (key q hq).small⟩, h.hw, fun q hq => by rw [hl]; exact key q hq⟩
theorem zeros_tup : ∀ m : Nat, (List.replicate m [Vl.int 0]).flatten = (List.replicate m (0 : Int)).map Vl.int
  | 0 => rfl
  | m + 1 => by
    simp only [List.replicate_succ, List.flatten_cons, List.map_cons, zeros_tup m]; rfl
abbrev sw (ns : List Int) (i a3 a4 a5 a6 a7 a8 a9 a10 a11 a12 a13 a14 a15 : Option Vl) : Sg :=
  [some (zs ns), some (.ref 0), i, a3, a4, a5, a6, a7, a8, a9, a10, a11, a12, a13, a14, a15]
theorem law_way (n : Nat) (ns : List Int) {ld : Nms} {it : Its} (h : Raw ld it) (h1 : 1 ≤ ld.length) {place by_ : Int} (hp : 0 ≤ place) {S : Hs} (hS : NR S) (i a8 a9 a10 a11 a12 a13 a14 a15 : Option Vl) :
    ∃ ld' it' b8 b9, Raw ld' it' ∧ exc1 (Mn n) (.ite (.bor (.cmp .Eq (.var 5) (.cst (.int 0))) (.cmp .Eq (.var 7) (.inl (.dspk [] .nil)))) (.cons (.iset (.var 6) (.idx (.idx (.idx (.var 3) (.cst (.int 0))) (.bin .Mod (.var 4) (.b1 .len (.idx (.var 3) (.cst (.int 0)))))) (.cst (.int 0))) (.cst (.int 0))) .nil) (.cons (.asg (.tp (.cons (.nm 8) (.cons (.nm 9) .nil))) (.idx (.var 7) (.bin .Add (.cst (.int 1)) (.bin .Mod (.var 4) (.b1 .len (.var 7)))))) (.cons (.iset (.var 7) (.bin .Add (.cst (.int 1)) (.bin .Mod (.var 4) (.b1 .len (.var 7)))) (.ite (.cmp .Lt (.var 5) (.cst (.int 3))) (.tup (.cons (.var 8) (.cons (.bin .Mult (.tup (.cons (.cst (.int 0)) .nil)) (.b1 .len (.var 9))) .nil))) (.tup (.cons (.cst (.str "cell")) (.cons (.tup (.cons (.cst (.int 1)) (.cons (.bin .Sub (.cst (.int 0)) (.cst (.int 1))) .nil))) .nil))))) .nil))) (sw ns i (some (rv ld it)) (some (.int place)) (some (.int by_)) (some (.ref S.length)) (some (.ref (S.length + 1))) a8 a9 a10 a11 a12 a13 a14 a15) (S ++ [ldD ld, spD (valI it)])
      = .nx (sw ns i (some (rv ld it)) (some (.int place)) (some (.int by_)) (some (.ref S.length)) (some (.ref (S.length + 1))) b8 b9 a10 a11 a12 a13 a14 a15) (S ++ [ldD ld', spD (valI it')]) := by
  have hdct : dctOf (S ++ [ldD ld, spD (valI it)]) (.ref (S.length + 1)) = some ((rngI (valI it).length).map Sum.inl, valI it) := by
    simp only [dctOf, g1, spD]
  have test : ∃ b, (b = false → 0 < it.length) ∧ ev (Mn n) (.bor (.cmp .Eq (.var 5) (.cst (.int 0))) (.cmp .Eq (.var 7) (.inl (.dspk [] .nil)))) (sw ns i (some (rv ld it)) (some (.int place)) (some (.int by_)) (some (.ref S.length)) (some (.ref (S.length + 1))) a8 a9 a10 a11 a12 a13 a14 a15) (S ++ [ldD ld, spD (valI it)]) = .ok (.bl b) (S ++ [ldD ld, spD (valI it)]) := by
    by_cases c : by_ = 0
    · exact ⟨true, fun h => (by cases h), v_or1 (v_cmp (v_var rfl) v_cst (congrArg some (decide_eq_true c)))⟩
    · by_cases c2 : it = []
      · refine ⟨true, fun h => (by cases h), v_or0 (v_cmp (v_var rfl) v_cst (congrArg some (decide_eq_false c))) (v_cmp (v_var rfl) (v_inl f_dct0) ?_)⟩
        subst c2
        simp only [cmpop, eqop, eqS, eqDct, hdct]
        rfl
      · have h0 : 0 < it.length := List.length_pos_iff.mpr c2
        refine ⟨false, fun _ => h0, v_or0 (v_cmp (v_var rfl) v_cst (congrArg some (decide_eq_false c))) (v_cmp (v_var rfl) (v_inl f_dct0) ?_)⟩
        have e0 : dctOf (S ++ [ldD ld, spD (valI it)]) (Ob.dct [] []).inl = some ([], []) := rfl
        simp only [cmpop, eqop]
        have : eqS (.ref (S.length + 1)) (Ob.dct [] []).inl = none := rfl
        rw [this]
        simp only [eqDct, hdct, e0]
        rw [if_neg (by simp only [List.length_map, rngI_len, valI_len, List.length_nil]; omega)]
  obtain ⟨b, hb0, hb⟩ := test
  cases b with
  | true =>
    have hlN : b1op .len (S ++ [ldD ld, spD (valI it)]) (.lst (valN ld)) = some (.int ld.length) := by rw [len_lst, valN_len]
    obtain ⟨j, hj⟩ : ∃ j : Nat, place % (ld.length : Int) = j := ⟨(place % (ld.length : Int)).toNat, by have := Int.emod_nonneg place (b := (ld.length : Int)) (by omega); omega⟩
    have hjl : j < ld.length := by have := Int.emod_lt_of_pos place (b := (ld.length : Int)) (by omega); omega
    have hpj : (valN ld)[j]? = some (.tup [.str ld[j].1, .int ld[j].2]) := by
      unfold valN
      rw [List.getElem?_map, List.getElem?_eq_getElem hjl]; rfl
    have hmem : ld[j].1 ∈ ld.map (·.1) := List.mem_map.mpr ⟨_, List.getElem_mem hjl, rfl⟩
    refine ⟨setN ld[j].1 0 ld, it, a8, a9, h.setN _ ⟨by omega, by omega⟩, x_ite1 _ hb (ex_nx (x_iset (k := .str ld[j].1) v_cst (v_var rfl) (v_idx (v_idx (v_idx (v_var rfl) v_cst (ix_tup (i := 0) rfl)) (v_bin (v_var rfl) (v_b1 (v_idx (v_var rfl) v_cst (ix_tup (i := 0) rfl)) hlN) (by rw [b_mod (by omega), hj])) (ix_lst hpj)) v_cst (ix_tup (i := 0) rfl)) (iset_dct (kk := Sum.inr ld[j].1) g0 rfl (by rw [List.length_map]; have := h.fit.n6; omega))) ?_)⟩
    rw [s0, put_ld hmem]
    exact ex_nil
  | false =>
    have h0 := hb0 rfl
    have hlI : b1op .len (S ++ [ldD ld, spD (valI it)]) (.ref (S.length + 1)) = some (.int it.length) := by
      simp only [b1op, hdct, List.length_map, rngI_len, valI_len]
    obtain ⟨j, hj⟩ : ∃ j : Nat, place % (it.length : Int) = j := ⟨(place % (it.length : Int)).toNat, by have := Int.emod_nonneg place (b := (it.length : Int)) (by omega); omega⟩
    have hjl : j < it.length := by have := Int.emod_lt_of_pos place (b := (it.length : Int)) (by omega); omega
    have hpj : it[j]? = some it[j] := List.getElem?_eq_getElem hjl
    have hit : Item it.length it[j] := h.hi _ (List.getElem_mem hjl)
    generalize it[j] = p at hpj hit
    have hix : idxop (S ++ [ldD ld, spD (valI it)]) (.ref (S.length + 1)) (.int ((1 : Int) + j)) = some (itV p) := by
      rw [ix_sp hdct ⟨by omega, by rw [valI_len]; omega⟩]
      have : ((1 : Int) + j - 1).toNat = j := by omega
      rw [this]
      exact valI_get hpj
    have key : ev (Mn n) (.bin .Add (.cst (.int 1)) (.bin .Mod (.var 4) (.b1 .len (.var 7)))) (sw ns i (some (rv ld it)) (some (.int place)) (some (.int by_)) (some (.ref S.length)) (some (.ref (S.length + 1))) a8 a9 a10 a11 a12 a13 a14 a15) (S ++ [ldD ld, spD (valI it)]) = .ok (.int ((1 : Int) + j)) (S ++ [ldD ld, spD (valI it)]) :=
      v_bin v_cst (v_bin (v_var rfl) (v_b1 (v_var rfl) hlI) (by rw [b_mod (by omega), hj])) (b_add _ _)
    have key2 : ev (Mn n) (.bin .Add (.cst (.int 1)) (.bin .Mod (.var 4) (.b1 .len (.var 7)))) (sw ns i (some (rv ld it)) (some (.int place)) (some (.int by_)) (some (.ref S.length)) (some (.ref (S.length + 1))) (some (.str p.1)) (some (.tup (p.2.map .int))) a10 a11 a12 a13 a14 a15) (S ++ [ldD ld, spD (valI it)]) = .ok (.int ((1 : Int) + j)) (S ++ [ldD ld, spD (valI it)]) :=
      v_bin v_cst (v_bin (v_var rfl) (v_b1 (v_var rfl) hlI) (by rw [b_mod (by omega), hj])) (b_add _ _)
    have w1 : exc1 (Mn n) (.asg (.tp (.cons (.nm 8) (.cons (.nm 9) .nil))) (.idx (.var 7) (.bin .Add (.cst (.int 1)) (.bin .Mod (.var 4) (.b1 .len (.var 7)))))) (sw ns i (some (rv ld it)) (some (.int place)) (some (.int by_)) (some (.ref S.length)) (some (.ref (S.length + 1))) a8 a9 a10 a11 a12 a13 a14 a15) (S ++ [ldD ld, spD (valI it)])
        = .nx (sw ns i (some (rv ld it)) (some (.int place)) (some (.int by_)) (some (.ref S.length)) (some (.ref (S.length + 1))) (some (.str p.1)) (some (.tup (p.2.map .int))) a10 a11 a12 a13 a14 a15) (S ++ [ldD ld, spD (valI it)]) := x_asg _ _ (v_idx (v_var rfl) key hix) rfl
    have new : ∃ q, Item it.length q ∧ ev (Mn n) (.ite (.cmp .Lt (.var 5) (.cst (.int 3))) (.tup (.cons (.var 8) (.cons (.bin .Mult (.tup (.cons (.cst (.int 0)) .nil)) (.b1 .len (.var 9))) .nil))) (.tup (.cons (.cst (.str "cell")) (.cons (.tup (.cons (.cst (.int 1)) (.cons (.bin .Sub (.cst (.int 0)) (.cst (.int 1))) .nil))) .nil)))) (sw ns i (some (rv ld it)) (some (.int place)) (some (.int by_)) (some (.ref S.length)) (some (.ref (S.length + 1))) (some (.str p.1)) (some (.tup (p.2.map .int))) a10 a11 a12 a13 a14 a15) (S ++ [ldD ld, spD (valI it)]) = .ok (itV q) (S ++ [ldD ld, spD (valI it)]) := by
      by_cases c : by_ < 3
      · refine ⟨(p.1, List.replicate p.2.length 0), ⟨by simpa using hit.w, fun t ht => by rw [(List.mem_replicate.mp ht).2]; exact ⟨by omega, by omega⟩⟩, v_ite1 (v_cmp (v_var rfl) v_cst (congrArg some (decide_eq_true c))) (v_tup (vs_cons (v_var rfl) (vs_cons (v_bin (x := .tup [.int 0]) (y := .int p.2.length) (v_tup (vs_cons v_cst vs_nil) (show 1 ≤ 1000000 by decide)) (v_b1 (v_var rfl) (by rw [len_tup, List.length_map])) ?_) vs_nil)) (show 2 ≤ 1000000 by decide))⟩
        have : p.2.length ≤ 2 := hit.small
        have e : binop .Mult (.tup [.int 0]) (.int p.2.length) = some (.tup (List.replicate (p.2.length : Int).toNat [Vl.int 0]).flatten) := by
          simp only [binop]
          rw [if_pos ⟨by simp, by omega, by omega, by simp⟩]
        rw [e, Int.toNat_natCast]
        congr 2
        exact zeros_tup _
      · exact ⟨("cell", [1, -1]), ⟨.inl ⟨rfl, rfl⟩, fun t ht => by
          simp only [List.mem_cons, List.not_mem_nil, or_false] at ht
          rcases ht with rfl | rfl <;> exact ⟨by omega, by omega⟩⟩, v_ite0 (v_cmp (v_var rfl) v_cst (congrArg some (decide_eq_false c))) (v_tup (vs_cons v_cst (vs_cons (v_tup (vs_cons v_cst (vs_cons (v_bin v_cst v_cst (show binop .Sub (.int 0) (.int 1) = some (.int (-1)) from rfl)) vs_nil)) (show 2 ≤ 1000000 by decide)) vs_nil)) (show 2 ≤ 1000000 by decide))⟩
    obtain ⟨q, hq, hnew⟩ := new
    refine ⟨ld, it.set j q, some (.str p.1), some (.tup (p.2.map .int)), h.setI j hq, x_ite0 _ hb (ex_nx w1 (ex_nx (x_iset hnew (v_var rfl) key2 (iset_dct (kk := Sum.inl ((1 : Int) + j)) g1 rfl (by rw [List.length_map, rngI_len, valI_len]; have := h.fit.i6; omega))) ?_))⟩
    rw [s1, put_sp (by rw [valI_len]; exact hjl), valI_set]
    have : spD (valI (it.set j q)) = .dct ((rngI (valI it).length).map Sum.inl) (valI (it.set j q)) := by unfold spD; rw [valI_len, valI_len, List.length_set]
    rw [this]
    exact ex_nil
end K03
set_option Elab.async false
set_option linter.all false
set_option maxRecDepth 100000
set_option maxHeartbeats 4000000
namespace K03
open PySem L2 Oz

/-! ### the law's first loop -/
abbrev Q2 := Nms × Its
def rq (q : Q2) : Vl := rv q.1 q.2
theorem rqs_nr (Q : List Q2) : nrs (Q.map rq) = true := nrs_of fun x hx => by
  obtain ⟨q, _, rfl⟩ := List.mem_map.mp hx
  exact rv_nr _ _
theorem law_step (n : Nat) (ns : List Int) {i : Nat} (hi : i < 4) {Q : List Q2} (hQ : Q.length ≤ 100) {T : Hs} (hT : NR T) (a3 a4 a5 a6 a7 a8 a9 a10 a11 a12 a13 a14 a15 : Option Vl) :
    ∃ b3 b4 b5 b6 b7 b8 b9 q1 q2 T', NR T' ∧ Can q1.1 q1.2 ∧ Can q2.1 q2.2 ∧ exec (Mn (n + 5)) w1_law (sw ns (some (.int i)) a3 a4 a5 a6 a7 a8 a9 a10 a11 a12 a13 a14 a15) (.lst (Q.map rq) :: T)
      = .nx (sw ns (some (.int i)) b3 b4 b5 b6 b7 b8 b9 a10 a11 a12 a13 a14 a15) (.lst ((Q ++ [q1, q2]).map rq) :: T') := by
  have nr1 : ∀ (P : List Q2) (U : Hs), NR U → NR (.lst (P.map rq) :: U) := fun P U hU o ho => by
    rcases List.mem_cons.mp ho with e | e
    · rw [e]; exact rqs_nr P
    · exact hU o e
  obtain ⟨nm, it, raw, hlen, hraw⟩ := r_raw (n + 1) ns (k := 13 * i) (nr1 Q T hT)
  have can := can_of raw
  have h1 : 1 ≤ (canN nm it).length := by rw [canN_len]; exact hlen
  generalize hld : canN nm it = ld at *
  generalize hit : canI nm it = jt at *
  have ek : (13 : Int) * (i : Int) = ((13 * i : Nat) : Int) := by omega
  have ek2 : ((13 * i : Nat) : Int) + 12 = ((13 * i + 12 : Nat) : Int) := by omega
  have mul : binop .Mult (.int 13) (.int (i : Int)) = some (.int ((13 * i : Nat) : Int)) := by rw [b_mulL (by omega) (by omega), ek]
  have z1 : exc1 (Mn (n + 5)) (.asg (.nm 3) (.call "_law_raw" (.cons (.var 0) (.cons (.bin .Mult (.cst (.int 13)) (.var 2)) (.cons (.inl (.lst (.cons (.tup (.cons (.cst (.str "list")) (.cons (.cst (.int 0)) .nil))) (.cons (.tup (.cons (.cst (.str "seg")) (.cons (.cst (.int 1)) .nil))) .nil)))) (.cons (.cst (.int 6)) .nil)))))) (sw ns (some (.int i)) a3 a4 a5 a6 a7 a8 a9 a10 a11 a12 a13 a14 a15) (.lst (Q.map rq) :: T)
      = .nx (sw ns (some (.int i)) (some (rv ld jt)) a4 a5 a6 a7 a8 a9 a10 a11 a12 a13 a14 a15) (.lst (Q.map rq) :: T) :=
    x_asg _ _ (v_call (vs_cons (v_var rfl) (vs_cons (v_bin v_cst (v_var rfl) mul) (vs_cons (v_inl (f_lst (vs_cons (v_tup (vs_cons v_cst (vs_cons v_cst vs_nil)) (show 2 ≤ 1000000 by decide)) (vs_cons (v_tup (vs_cons v_cst (vs_cons v_cst vs_nil)) (show 2 ≤ 1000000 by decide)) vs_nil)) (show 2 ≤ 1000000 by decide))) (vs_cons v_cst vs_nil)))) hraw) rfl
  have z2 : exc1 (Mn (n + 5)) (.ex (.mut .append (.var 1) (.cons (.var 3) .nil))) (sw ns (some (.int i)) (some (rv ld jt)) a4 a5 a6 a7 a8 a9 a10 a11 a12 a13 a14 a15) (.lst (Q.map rq) :: T)
      = .nx (sw ns (some (.int i)) (some (rv ld jt)) a4 a5 a6 a7 a8 a9 a10 a11 a12 a13 a14 a15) (.lst ((Q ++ [(ld, jt)]).map rq) :: T) := by
    rw [List.map_append]
    exact x_ex _ _ (v_mut (k := 0) (v_var rfl) rfl (vs_cons (v_var rfl) vs_nil) rfl (mut_app (by rw [List.length_map]; omega)))
  have hN1 : NR (.lst ((Q ++ [(ld, jt)]).map rq) :: T) := nr1 _ T hT
  obtain ⟨ds, hd, hc⟩ := r_digits (n + 3) ns (k := 13 * i + 12) (sizes := [97, 5]) (by decide) (by decide) hN1
  obtain ⟨place, by_, rfl, hp1, hp2⟩ := digs2 hd
  have z3 : exc1 (Mn (n + 5)) (.asg (.tp (.cons (.nm 4) (.cons (.nm 5) .nil))) (.call "_law_digits" (.cons (.var 0) (.cons (.bin .Add (.bin .Mult (.cst (.int 13)) (.var 2)) (.cst (.int 12))) (.cons (.inl (.lst (.cons (.cst (.int 97)) (.cons (.cst (.int 5)) .nil)))) .nil))))) (sw ns (some (.int i)) (some (rv ld jt)) a4 a5 a6 a7 a8 a9 a10 a11 a12 a13 a14 a15) (.lst ((Q ++ [(ld, jt)]).map rq) :: T)
      = .nx (sw ns (some (.int i)) (some (rv ld jt)) (some (.int place)) (some (.int by_)) a6 a7 a8 a9 a10 a11 a12 a13 a14 a15) (.lst ((Q ++ [(ld, jt)]).map rq) :: T) :=
    x_asg _ _ (v_call (vs_cons (v_var rfl) (vs_cons (v_bin (v_bin v_cst (v_var rfl) mul) v_cst (by rw [b_add, ek2])) (vs_cons (v_inl (f_lst (vs_cons v_cst (vs_cons v_cst vs_nil)) (show 2 ≤ 1000000 by decide))) vs_nil))) hc) rfl
  obtain ⟨S, hS⟩ : ∃ S : Hs, S = .lst ((Q ++ [(ld, jt)]).map rq) :: T := ⟨_, rfl⟩
  have hSN : NR S := by rw [hS]; exact hN1
  have hN2 : NR (S ++ [ldD ld]) := hSN.one (by simp only [ldD, Ob.nr, nrs_ints])
  have a1 := v_alc (M := Mn (n + 5)) (η := sw ns (some (.int i)) (some (rv ld jt)) (some (.int place)) (some (.int by_)) a6 a7 a8 a9 a10 a11 a12 a13 a14 a15) (S := S) (f_dctp (v_idx (a := .var 3) (b := .cst (.int 0)) (v_var rfl) v_cst (ix_tup (i := 0) rfl)) (dct_valN can.raw.fit.nd))
  have a2 := v_alc (M := Mn (n + 5)) (η := sw ns (some (.int i)) (some (rv ld jt)) (some (.int place)) (some (.int by_)) a6 a7 a8 a9 a10 a11 a12 a13 a14 a15) (S := S ++ [ldD ld]) (f_call (m := "_law_spots") (vs_cons (v_idx (a := .var 3) (b := .cst (.int 1)) (v_var rfl) v_cst (ix_tup (i := 1) rfl)) vs_nil) (r_spots (n + 4) (by have := can.raw.fit.i6; omega) hN2))
  have e2 : S ++ [ldD ld] ++ [spD (valI jt)] = S ++ [ldD ld, spD (valI jt)] := by simp
  rw [e2, List.length_append] at a2
  have z4 : exc1 (Mn (n + 5)) (.par 6 7 (.alc (.dctp (.idx (.var 3) (.cst (.int 0))))) (.alc (.call "_law_spots" (.cons (.idx (.var 3) (.cst (.int 1))) .nil)))) (sw ns (some (.int i)) (some (rv ld jt)) (some (.int place)) (some (.int by_)) a6 a7 a8 a9 a10 a11 a12 a13 a14 a15) S
      = .nx (sw ns (some (.int i)) (some (rv ld jt)) (some (.int place)) (some (.int by_)) (some (.ref S.length)) (some (.ref (S.length + 1))) a8 a9 a10 a11 a12 a13 a14 a15) (S ++ [ldD ld, spD (valI jt)]) := x_par a1 a2
  obtain ⟨ld', it', b8, b9, raw', z5⟩ := law_way (n + 5) ns can.raw h1 (place := place) (by_ := by_) hp1.1 hSN (some (.int i)) a8 a9 a10 a11 a12 a13 a14 a15
  have hN3 : NR (S ++ [ldD ld', spD (valI it')]) := nr2 hSN (by simp only [ldD, Ob.nr, nrs_ints]) (by simp only [spD, Ob.nr, valI_nr])
  have fin := r_canon (n + 3) raw'.fit (S := S ++ [ldD ld', spD (valI it')]) (r1 := S.length) (r2 := S.length + 1) hN3 g0 g1
  have z6 : exc1 (Mn (n + 5)) (.ex (.mut .append (.var 1) (.cons (.call "_law_canon" (.cons (.var 6) (.cons (.var 7) .nil))) .nil))) (sw ns (some (.int i)) (some (rv ld jt)) (some (.int place)) (some (.int by_)) (some (.ref S.length)) (some (.ref (S.length + 1))) b8 b9 a10 a11 a12 a13 a14 a15) (S ++ [ldD ld', spD (valI it')])
      = .nx (sw ns (some (.int i)) (some (rv ld jt)) (some (.int place)) (some (.int by_)) (some (.ref S.length)) (some (.ref (S.length + 1))) b8 b9 a10 a11 a12 a13 a14 a15) (.lst ((Q ++ [(ld, jt), (canN ld' it', canI ld' it')]).map rq) :: (T ++ [ldD ld', spD (valI it')])) := by
    have eq : (Q ++ [(ld, jt), (canN ld' it', canI ld' it')]).map rq = (Q ++ [(ld, jt)]).map rq ++ [rv (canN ld' it') (canI ld' it')] := by
      rw [List.map_append, List.map_append, List.append_assoc]; rfl
    rw [eq]
    have h0 : (S ++ [ldD ld', spD (valI it')])[0]? = some (.lst ((Q ++ [(ld, jt)]).map rq)) := by rw [hS]; rfl
    have := x_ex (M := Mn (n + 5)) _ _ (v_mut (M := Mn (n + 5)) (η := sw ns (some (.int i)) (some (rv ld jt)) (some (.int place)) (some (.int by_)) (some (.ref S.length)) (some (.ref (S.length + 1))) b8 b9 a10 a11 a12 a13 a14 a15) (S := S ++ [ldD ld', spD (valI it')]) (u := .append) (a := .var 1) (es := .cons (.call "_law_canon" (.cons (.var 6) (.cons (.var 7) .nil))) .nil) (k := 0) (x := .ref 0) (v_var rfl) (by simp only [lstAt, h0]) (vs_cons (v_call (r := .val (rv (canN ld' it') (canI ld' it'))) (vs_cons (v_var rfl) (vs_cons (v_var rfl) vs_nil)) fin) vs_nil) h0 (mut_app (y := rv (canN ld' it') (canI ld' it')) (by rw [List.length_map, List.length_append]; simp; omega)))
    rw [this, hS]; rfl
  rw [← hS] at z2 z3
  exact ⟨_, _, _, _, _, _, _, (ld, jt), (canN ld' it', canI ld' it'), T ++ [ldD ld', spD (valI it')], nr2 hT (by simp only [ldD, Ob.nr, nrs_ints]) (by simp only [spD, Ob.nr, valI_nr]), can, can_of raw', ex_nx z1 (ex_nx z2 (ex_nx z3 (ex_nx z4 (ex_nx z5 (ex_nx z6 ex_nil)))))⟩
end K03
set_option Elab.async false
set_option linter.all false
set_option maxRecDepth 100000
set_option maxHeartbeats 4000000
namespace K03
open PySem L2 Oz

/-! ### the law's webs -/
def wq (q : Q2) : Vl := web q.1 q.2
def fWk (x : Vl) : Key := match x with
  | .tup [.str z, _] => Sum.inr z
  | _ => Sum.inl 0
def fWv (x : Vl) : Vl := match x with
  | .tup [_, y] => y
  | _ => .non
def fW (x : Vl) : Vl := match x with
  | .tup [.lst a, .lst b] => (Ob.ins "Web" ["leads", "spots"] [.dct (a.map fWk) (a.map fWv), .lst b]).inl
  | _ => .non
theorem fW_rq (q : Q2) : fW (rq q) = wq q := by
  have e1 : (valN q.1).map fWk = q.1.map fun p => (Sum.inr p.1 : Key) := by
    unfold valN; rw [List.map_map]; rfl
  have e2 : (valN q.1).map fWv = q.1.map fun p => Vl.int p.2 := by
    unfold valN; rw [List.map_map]; rfl
  show (Ob.ins "Web" ["leads", "spots"] [.dct ((valN q.1).map fWk) ((valN q.1).map fWv), .lst (valI q.2)]).inl = _
  rw [e1, e2]
  rfl
theorem rqs_head {Q : List Q2} {T : Hs} (hT : NR T) : NR (.lst (Q.map rq) :: T) := fun o ho => by
  rcases List.mem_cons.mp ho with e | e
  · rw [e]; exact rqs_nr Q
  · exact hT o e
theorem e_webs (n : Nat) (ns : List Int) {Q : List Q2} (hQ : Q.length ≤ 100) (hC : ∀ q ∈ Q, Can q.1 q.2) {T : Hs} (hT : NR T) (i a3 a4 a5 a6 a7 a8 a9 a10 a11 a12 a13 a14 a15 : Option Vl) :
    evf (Mn (n + 5)) q2_law (sw ns i a3 a4 a5 a6 a7 a8 a9 a10 a11 a12 a13 a14 a15) (.lst (Q.map rq) :: T) = .ok (.lst (Q.map wq)) (.lst (Q.map rq) :: T) := by
  have e : Q.map wq = (Q.map rq).map fW := by
    rw [List.map_map]
    exact List.map_congr_left fun q _ => (fW_rq q).symm
  rw [e]
  refine ev_compM [(0, .lst (Q.map rq))] (Q.map rq) fW (ev_sq (v_var rfl) rfl) (fun p hp => by rw [List.mem_singleton.mp hp]; rfl) (by rw [List.length_map]; omega) (fun x hx => ?_) fun x hx acc ha => ?_
  · obtain ⟨q, _, rfl⟩ := List.mem_map.mp hx
    rw [fW_rq]; exact web_nr _ _
  · obtain ⟨q, hq, rfl⟩ := List.mem_map.mp hx
    have can := hC q hq
    have hS : NR (.lst (Q.map rq) :: T ++ [.lst acc]) := (rqs_head hT).one ha
    obtain ⟨nm', it', turn, ht⟩ := r_turned (n + 4) can hS
    obtain ⟨raw', full', eN, eI⟩ := turn_ok can turn
    have hm := r_made (n + 1) raw' full' hS
    rw [eN, eI] at hm
    have hlen : b1op .len (.lst (Q.map rq) :: T ++ [.lst acc]) (.lst (valI q.2)) = some (.int q.2.length) := by rw [len_lst, valI_len]
    have h6 := can.raw.fit.i6
    rw [fW_rq]
    exact ⟨sw ns i (some (rv q.1 q.2)) a4 a5 a6 a7 a8 a9 a10 a11 a12 a13 a14 a15, rfl, v_call (r := .frs (webO q.1 q.2)) (vs_cons (v_call (r := .val (rv nm' it')) (vs_cons (v_var rfl) (vs_cons (v_bin (v_bin v_cst (v_b1 (v_idx (v_var rfl) v_cst (ix_tup (i := 1) rfl)) hlen) (b_mulL (by omega) (by omega))) v_cst (b_add _ _)) vs_nil)) ht) vs_nil) hm⟩
/-! ### shapes of a web -/
def fSh (x : Vl) : Option Vl := match x with
  | .tup (.str z :: r) => if z = ("cell" : Str) then none else some (.tup (.str z :: r))
  | _ => none
theorem fSh_all : ∀ it : Its, (valI it).filterMap fSh = valI (it.filter fun p => !decide (p.1 = ("cell" : Str)))
  | [] => rfl
  | p :: it => by
    have ih := fSh_all it
    unfold valI at ih ⊢
    simp only [List.map_cons, List.filterMap_cons, fSh]
    by_cases c : p.1 = ("cell" : Str)
    · rw [if_pos c, List.filter_cons_of_neg (by simp [c])]
      exact ih
    · rw [if_neg c, List.filter_cons_of_pos (by simp [c])]
      simp only [ih, List.map_cons]
theorem sh_empty : ∀ it : Its, (valI (it.filter fun p => !decide (p.1 = ("cell" : Str)))).isEmpty = it.all fun p => decide (p.1 = ("cell" : Str))
  | [] => rfl
  | p :: it => by
    by_cases c : p.1 = ("cell" : Str)
    · rw [List.filter_cons_of_neg (by simp [c]), List.all_cons, decide_eq_true c, Bool.true_and]
      exact sh_empty it
    · rw [List.filter_cons_of_pos (by simp [c]), List.all_cons, decide_eq_false c]
      rfl
theorem eq_shapes {ld : Nms} {it : Its} (h : Raw ld it) (S : Hs) : cmpop .Eq S (.lst ((valI it).filterMap fSh)) (.lst []) = some (it.all fun p => decide (p.1 = ("cell" : Str))) := by
  rw [fSh_all, ← sh_empty]
  refine eq_nil (pds_of fun x hx => ?_) (by have := valI_dep (it.filter fun p => !decide (p.1 = ("cell" : Str))); omega)
  obtain ⟨p, hp, rfl⟩ := List.mem_map.mp hx
  have hp := (List.mem_filter.mp hp).1
  simp only [Vl.pd, pds, ok_of (h.hi p hp).sm.2, ints_pd (h.i6 hp), Bool.and_self]
theorem ne_str (S : Hs) (x y : Str) : cmpop .NotEq S (.str x) (.str y) = some (!decide (x = y)) := rfl
theorem e_shapes (n : Nat) (ns : List Int) {ld : Nms} {it : Its} (h : Raw ld it) (S : Hs) (i a4 a5 a6 a7 a8 a9 a10 a11 a12 a13 a14 a15 : Option Vl) :
    evf (Mn n) q3_law (sw ns i (some (rv ld it)) a4 a5 a6 a7 a8 a9 a10 a11 a12 a13 a14 a15) S = .ok (.lst ((valI it).filterMap fSh)) S := by
  refine ev_compI [] (valI it) fSh (ev_sq (v_idx (v_var rfl) v_cst (ix_tup (i := 1) rfl)) rfl) (lock_nil _) (by rw [valI_len]; have := h.fit.i6; omega) (fun x hx y hy => ?_) fun x hx acc ha => ?_
  · obtain ⟨p, hp, rfl⟩ := List.mem_map.mp hx
    simp only [fSh] at hy
    split at hy
    · cases hy
    · rw [← Option.some.inj hy]
      simp only [Vl.nr, nrs, nrs_map_int, Bool.and_self]
  · obtain ⟨p, hp, rfl⟩ := List.mem_map.mp hx
    refine ⟨sw ns i (some (rv ld it)) a4 a5 a6 a7 a8 a9 a10 a11 a12 (some (itV p)) a14 a15, rfl, ?_⟩
    by_cases c : p.1 = ("cell" : Str)
    · refine .inl ⟨v_cmp (v_idx (v_var rfl) v_cst (ix_tup (i := 0) rfl)) v_cst ?_, ?_⟩
      · rw [ne_str]; exact congrArg (fun b => some (!b)) (decide_eq_true c)
      · simp only [fSh, if_pos c]
    · refine .inr ⟨v_cmp (v_idx (v_var rfl) v_cst (ix_tup (i := 0) rfl)) v_cst ?_, itV p, v_var rfl, ?_⟩
      · rw [ne_str]; exact congrArg (fun b => some (!b)) (decide_eq_false c)
      · simp only [fSh, if_neg c]; rfl
/-! ### pairs of webs -/
theorem zip_q {α : Type} (f g : α → Vl) : ∀ Q : List α, zipL (Q.map f) (Q.map g) = Q.map fun q => .tup [f q, g q]
  | [] => rfl
  | q :: Q => by simp only [List.map_cons, zipL, zip_q f g Q]
theorem eqY_web (S : Hs) (ld : Nms) (it : Its) : eqY S "Web" (web ld it) = true := rfl
theorem eq_bl (S : Hs) (a b : Bool) : cmpop .Eq S (.bl a) (.bl b) = some (decide (a = b)) := rfl
theorem ne_bl (S : Hs) (a b : Bool) : cmpop .NotEq S (.bl a) (.bl b) = some (!decide (a = b)) := rfl
theorem law_inner (n : Nat) (ns : List Int) {Q : List Q2} (hC : ∀ q ∈ Q, Can q.1 q.2) {q : Q2} (hq : Can q.1 q.2) {S : Hs} (hS : NR S) (h0 : S[0]? = some (.lst (Q.map rq))) (i a4 a5 a6 a7 a8 a9 a10 a12 a13 a14 a15 : Option Vl) :
    ∃ b14 b15, forL (fun η1 S2 => exec (Mn (n + 5)) w4_law η1 S2) (.tp (.cons (.nm 14) (.cons (.nm 15) .nil))) [(0, .lst (Q.map rq))] (Q.map fun q => .tup [wq q, rq q]) (sw ns i (some (rq q)) a4 a5 a6 a7 a8 a9 a10 (some (wq q)) a12 a13 a14 a15) S
      = .nx (sw ns i (some (rq q)) a4 a5 a6 a7 a8 a9 a10 (some (wq q)) a12 a13 b14 b15) S := by
  obtain ⟨η', S', g, b14, b15, e1, e2⟩ := for_ok (body := fun η1 S2 => exec (Mn (n + 5)) w4_law η1 S2) (t := .tp (.cons (.nm 14) (.cons (.nm 15) .nil))) (lk := [(0, .lst (Q.map rq))]) (xs := Q.map fun q => .tup [wq q, rq q]) (η := sw ns i (some (rq q)) a4 a5 a6 a7 a8 a9 a10 (some (wq q)) a12 a13 a14 a15) (S := S)
    (fun _ η S' => ∃ b14 b15, η = sw ns i (some (rq q)) a4 a5 a6 a7 a8 a9 a10 (some (wq q)) a12 a13 b14 b15 ∧ S' = S)
    ⟨a14, a15, rfl, rfl⟩ (fun _ η S' ⟨_, _, _, e⟩ p hp => by rw [List.mem_singleton.mp hp, e]; exact h0) fun j x η S' hx ⟨b14, b15, e1, e2⟩ => by
      subst e1 e2
      obtain ⟨r, hr, rfl⟩ := List.mem_map.mp (List.mem_of_getElem? hx)
      have hr := hC r hr
      refine ⟨sw ns i (some (rq q)) a4 a5 a6 a7 a8 a9 a10 (some (wq q)) a12 a13 (some (wq r)) (some (rq r)), rfl, _, _, .inl (ex_nx (x_ite0 S' ?_ ex_nil) ex_nil), some (wq r), some (rq r), rfl, rfl⟩
      have hw := r_weq (n + 4) hq.raw hr.raw hq.srt hr.srt hS
      have he := eq_raw hq.raw hr.raw S'
      generalize hd : (decide (q.1 = r.1) && decide (q.2 = r.2)) = d at hw he
      have ho : ∀ ng : Bool, ev (Mn (n + 5)) (.oeq "Web" ng (.var 11) (.var 14)) (sw ns i (some (rq q)) a4 a5 a6 a7 a8 a9 a10 (some (wq q)) a12 a13 (some (wq r)) (some (rq r))) S' = .ok (.bl (if ng then !d else d)) S' := fun ng => v_oeq (v_var rfl) (v_var rfl) (has_web (by decide)) (eqY_web _ _ _) hw
      have hc : ev (Mn (n + 5)) (.cmp .Eq (.var 3) (.var 15)) (sw ns i (some (rq q)) a4 a5 a6 a7 a8 a9 a10 (some (wq q)) a12 a13 (some (wq r)) (some (rq r))) S' = .ok (.bl d) S' := v_cmp (v_var rfl) (v_var rfl) he
      refine v_or0 (v_cmp (ho false) hc ?_) (v_cmp (ho true) hc ?_)
      · rw [ne_bl]; simp
      · rw [eq_bl]; cases d <;> rfl
  subst e1 e2
  exact ⟨b14, b15, g⟩
theorem txt_pd {ld : Nms} {it : Its} (h : Raw ld it) : (Vl.str (txt ld it)).pd = true := by simp only [Vl.pd, ok_of (txt_sm h).2]
theorem law_pair (n : Nat) (ns : List Int) {Q : List Q2} (hC : ∀ q ∈ Q, Can q.1 q.2) {q : Q2} (hq : Can q.1 q.2) {S : Hs} (hS : NR S) (h0 : S[0]? = some (.lst (Q.map rq))) (i a4 a5 a6 a7 a8 a9 a12 a13 a14 a15 : Option Vl) :
    ∃ b12 b14 b15, exec (Mn (n + 5)) w5_law (sw ns i (some (rq q)) a4 a5 a6 a7 a8 a9 (some (.lst (Q.map wq))) (some (wq q)) a12 a13 a14 a15) S
      = .nx (sw ns i (some (rq q)) a4 a5 a6 a7 a8 a9 (some (.lst (Q.map wq))) (some (wq q)) b12 a13 b14 b15) S := by
  have hrepr : ev (Mn (n + 5)) (.orepr "Web" (.var 11)) (sw ns i (some (rq q)) a4 a5 a6 a7 a8 a9 (some (.lst (Q.map wq))) (some (wq q)) a12 a13 a14 a15) S = .ok (.str (txt q.1 q.2)) S := v_orepr (v_var rfl) (has_web (by decide)) (r_wrepr (n + 2) hq.raw hS)
  have t1 : ev (Mn (n + 5)) (.bor (.bnot (.call "_law_same" (.cons (.orepr "Web" (.var 11)) (.cons (.call "_law_text" (.cons (.var 3) .nil)) .nil)))) (.bor (.oeq "Web" false (.var 11) (.orepr "Web" (.var 11))) (.oeq "Web" false (.var 11) (.var 3)))) (sw ns i (some (rq q)) a4 a5 a6 a7 a8 a9 (some (.lst (Q.map wq))) (some (wq q)) a12 a13 a14 a15) S = .ok (.bl false) S :=
    v_or0 (v_bnot (d := true) (v_call (r := .val (.bl true)) (vs_cons hrepr (vs_cons (v_call (r := .val (.str (txt q.1 q.2))) (vs_cons (v_var rfl) vs_nil) (r_ltext (n + 3) hq.raw hS)) vs_nil)) (r_same (n + 4) (txt_pd hq.raw) (by simp only [Vl.dep]; omega) (by simp only [Vl.wt]; have := (txt_sm hq.raw).1; omega) hS)))
      (v_or0 (v_oeq (d := false) (ng := false) (v_var rfl) hrepr (has_web (by decide)) rfl (r_weq_no (n + 4) rfl hS))
        (v_oeq (d := false) (ng := false) (v_var rfl) (v_var rfl) (has_web (by decide)) rfl (r_weq_no (n + 4) rfl hS)))
  have t2 := e_shapes (n + 5) ns hq.raw S i a4 a5 a6 a7 a8 a9 (some (.lst (Q.map wq))) (some (wq q)) a12 a13 a14 a15
  have h6 := hq.raw.fit.i6
  have t3 : ev (Mn (n + 5)) (.bnot (.call "_law_same" (.cons (.inl (.lst (.cons (.olen "Web" (.var 11)) (.cons (.mcl "Web" "is_heap" (.var 11) .nil) .nil)))) (.cons (.inl (.lst (.cons (.b1 .len (.idx (.var 3) (.cst (.int 1)))) (.cons (.cmp .Eq (.var 12) (.inl (.lst .nil))) .nil)))) .nil)))) (sw ns i (some (rq q)) a4 a5 a6 a7 a8 a9 (some (.lst (Q.map wq))) (some (wq q)) (some (.lst ((valI q.2).filterMap fSh))) a13 a14 a15) S = .ok (.bl false) S := by
    have hlen : b1op .len S (.lst (valI q.2)) = some (.int q.2.length) := by rw [len_lst, valI_len]
    refine v_bnot (d := true) (v_call (r := .val (.bl true)) (vs_cons (v_inl (f_lst (vs_cons (v_olen (v_var rfl) (has_web (by decide)) (r_wlen (n + 4) hS) (by omega)) (vs_cons (v_mcl (r := .val (.bl (q.2.all fun p => decide (p.1 = ("cell" : Str))))) (v_var rfl) (has_web (by decide)) vs_nil (r_heap (n + 4) (by omega) hS)) vs_nil)) (show 2 ≤ 1000000 by decide))) (vs_cons (v_inl (f_lst (vs_cons (v_b1 (v_idx (v_var rfl) v_cst (ix_tup (i := 1) rfl)) hlen) (vs_cons (v_cmp (v_var rfl) (v_inl (f_lst vs_nil (show 0 ≤ 1000000 by decide))) (eq_shapes hq.raw S)) vs_nil)) (show 2 ≤ 1000000 by decide))) vs_nil)) (r_same (n + 4) ?_ ?_ ?_ hS))
    · simp only [Ob.inl, Rv.v, Vl.pd, pds, Bool.and_true]; exact decide_eq_true (by omega)
    · simp only [Ob.inl, Rv.v, Vl.dep, deps]; omega
    · simp only [Ob.inl, Rv.v, Vl.wt, wts]; omega
  obtain ⟨b14, b15, t4⟩ := law_inner n ns hC hq hS h0 i a4 a5 a6 a7 a8 a9 (some (.lst (Q.map wq))) (some (.lst ((valI q.2).filterMap fSh))) a13 a14 a15
  obtain ⟨raw', full', eN, eI⟩ := turn_ok hq (turn_id hq)
  have hm := r_made (n + 1) hq.raw full' hS
  rw [eN, eI] at hm
  have t5 : ev (Mn (n + 5)) (.bnot (.oeq "Web" false (.var 11) (.call "_law_made" (.cons (.var 3) .nil)))) (sw ns i (some (rq q)) a4 a5 a6 a7 a8 a9 (some (.lst (Q.map wq))) (some (wq q)) (some (.lst ((valI q.2).filterMap fSh))) a13 b14 b15) S = .ok (.bl false) S := by
    have hw := r_weq (n + 4) hq.raw hq.raw hq.srt hq.srt hS
    simp only [decide_true, Bool.and_self] at hw
    exact v_bnot (d := true) (v_oeq (d := true) (ng := false) (v_var rfl) (v_call (r := .frs (webO q.1 q.2)) (vs_cons (v_var rfl) vs_nil) hm) (has_web (by decide)) (eqY_web _ _ _) hw)
  have hz : evS (Mn (n + 5)) (.zip (.var 10) (.var 1)) (sw ns i (some (rq q)) a4 a5 a6 a7 a8 a9 (some (.lst (Q.map wq))) (some (wq q)) (some (.lst ((valI q.2).filterMap fSh))) a13 a14 a15) S = .ok ([(0, .lst (Q.map rq))], Q.map fun q => .tup [wq q, rq q]) S := by
    rw [← zip_q wq rq]
    exact ev_zip (l1 := []) (l2 := [(0, .lst (Q.map rq))]) (v_var rfl) (v_var rfl) rfl (by simp only [walkT, walkS, h0])
  refine ⟨_, b14, b15, ex_nx (x_ite0 _ t1 ex_nil) (ex_nx (η1 := sw ns i (some (rq q)) a4 a5 a6 a7 a8 a9 (some (.lst (Q.map wq))) (some (wq q)) (some (.lst ((valI q.2).filterMap fSh))) a13 a14 a15) (x_asg _ _ (v_inl t2) rfl) (ex_nx (x_ite0 _ t3 ex_nil) (ex_nx (x_for _ _ _ hz t4) (ex_nx (x_ite0 _ t5 ex_nil) ex_nil))))⟩
end K03
set_option Elab.async false
set_option linter.all false
set_option maxRecDepth 100000
set_option maxHeartbeats 4000000
namespace K03
open PySem L2 Oz

/-! ### the empty web -/
theorem raw_nil : Raw [] [] := ⟨⟨List.Pairwise.nil, by decide, by decide, fun p h => (by cases h), fun p h => (by cases h), fun p h => (by cases h)⟩, fun p h => (by cases h), fun p h => (by cases h)⟩
theorem can_nil : Can [] [] := ⟨raw_nil, rfl, rfl⟩
theorem canN_nil : canN [] [] = [] := rfl
theorem canI_nil : canI [] [] = [] := rfl
theorem txt_nil : txt [] [] = ("empty" : Str) := by exact if_pos (show words [] [] = [] from rfl)
theorem e_empty (n : Nat) {es : Es} {η : Sg} {S : Hs} {nv iv : Vl} (hS : NR S) (hs : evs (Mn (n + 3)) es η S = .ok [nv, iv] S) (hn : Sq nv []) (hi : Sq iv []) : ev (Mn (n + 3)) (.inl (.new "Web" es)) η S = .ok (web [] []) S := by
  have h := r_init n raw_nil.fit raw_nil.hw raw_nil.hi rfl (nv := nv) (iv := iv) hn hi hS
  exact v_inl (f_new hs hS h (webO_nr [] []))
theorem law_true (ns : List Int) (h : ns.length ≤ 63) : ∃ T, exec (Mn 10) b_law (some (.lst (ns.map .int)) :: List.replicate 15 none) [] = .ret (.val (.bl true)) T := by
  have s1 : exc1 (Mn 10) (.asg (.nm 1) (.alc (.lst (.cons (.tup (.cons (.inl (.lst .nil)) (.cons (.inl (.lst .nil)) .nil))) .nil)))) (some (.lst (ns.map .int)) :: List.replicate 15 none) []
      = .nx (sw ns none none none none none none none none none none none none none none) (.lst ([(([], []) : Q2)].map rq) :: []) :=
    x_asg _ _ (v_alc (f_lst (vs_cons (v_tup (vs_cons (v_inl (f_lst vs_nil (show 0 ≤ 1000000 by decide))) (vs_cons (v_inl (f_lst vs_nil (show 0 ≤ 1000000 by decide))) vs_nil)) (show 2 ≤ 1000000 by decide)) vs_nil) (show 1 ≤ 1000000 by decide))) rfl
  have loop : ∃ (b2 b3 b4 b5 b6 b7 b8 b9 : Option Vl) (Q : List Q2) (T : Hs), NR T ∧ Q.length ≤ 100 ∧ (∀ q ∈ Q, Can q.1 q.2) ∧ forL (fun η1 S2 => exec (Mn 10) w1_law η1 S2) (.nm 2) [] (rngL 0 4) (sw ns none none none none none none none none none none none none none none) (.lst ([(([], []) : Q2)].map rq) :: [])
      = .nx (sw ns b2 b3 b4 b5 b6 b7 b8 b9 none none none none none none) (.lst (Q.map rq) :: T) := by
    obtain ⟨η', S', g, b2, b3, b4, b5, b6, b7, b8, b9, Q, T, e1, e2, hT, hl, hC⟩ := for_ok (body := fun η1 S2 => exec (Mn 10) w1_law η1 S2) (t := .nm 2) (lk := []) (xs := rngL 0 4) (η := sw ns none none none none none none none none none none none none none none) (S := .lst ([(([], []) : Q2)].map rq) :: [])
      (fun i η S' => ∃ (b2 b3 b4 b5 b6 b7 b8 b9 : Option Vl) (Q : List Q2) (T : Hs), η = sw ns b2 b3 b4 b5 b6 b7 b8 b9 none none none none none none ∧ S' = .lst (Q.map rq) :: T ∧ NR T ∧ Q.length = 1 + 2 * i ∧ ∀ q ∈ Q, Can q.1 q.2)
      ⟨none, none, none, none, none, none, none, none, [([], [])], [], rfl, rfl, NR.nil, rfl, fun q hq => by rw [List.mem_singleton.mp hq]; exact can_nil⟩ (fun i η S' _ => lock_nil _) fun i x η S' hx ⟨b2, b3, b4, b5, b6, b7, b8, b9, Q, T, e1, e2, hT, hl, hC⟩ => by
        subst e1 e2
        obtain ⟨hi, rfl⟩ := rng_at hx
        obtain ⟨c3, c4, c5, c6, c7, c8, c9, q1, q2, T', hT', h1, h2, he⟩ := law_step 5 ns hi (Q := Q) (by omega) hT b3 b4 b5 b6 b7 b8 b9 none none none none none none
        refine ⟨_, rfl, _, _, .inl he, _, _, _, _, _, _, _, _, Q ++ [q1, q2], T', rfl, rfl, hT', by rw [List.length_append]; simp; omega, fun q hq => ?_⟩
        rcases List.mem_append.mp hq with hq | hq
        · exact hC q hq
        · rcases List.mem_cons.mp hq with e | hq
          · rw [e]; exact h1
          · rw [List.mem_singleton.mp hq]; exact h2
    subst e1 e2
    rw [rngL_len] at hl
    exact ⟨b2, b3, b4, b5, b6, b7, b8, b9, Q, T, hT, by omega, hC, g⟩
  obtain ⟨b2, b3, b4, b5, b6, b7, b8, b9, Q, T, hT, hl, hC, hloop⟩ := loop
  have hN : NR (.lst (Q.map rq) :: T) := rqs_head hT
  have s3 : exc1 (Mn 10) (.asg (.nm 10) (.inl q2_law)) (sw ns b2 b3 b4 b5 b6 b7 b8 b9 none none none none none none) (.lst (Q.map rq) :: T)
      = .nx (sw ns b2 b3 b4 b5 b6 b7 b8 b9 (some (.lst (Q.map wq))) none none none none none) (.lst (Q.map rq) :: T) :=
    x_asg _ _ (v_inl (e_webs 5 ns hl hC hT b2 b3 b4 b5 b6 b7 b8 b9 none none none none none none)) rfl
  have loop2 : ∃ c3 c11 c12 c14 c15, forL (fun η1 S2 => exec (Mn 10) w5_law η1 S2) (.tp (.cons (.nm 11) (.cons (.nm 3) .nil))) [(0, .lst (Q.map rq))] (Q.map fun q => .tup [wq q, rq q]) (sw ns b2 b3 b4 b5 b6 b7 b8 b9 (some (.lst (Q.map wq))) none none none none none) (.lst (Q.map rq) :: T)
      = .nx (sw ns b2 c3 b4 b5 b6 b7 b8 b9 (some (.lst (Q.map wq))) c11 c12 none c14 c15) (.lst (Q.map rq) :: T) := by
    obtain ⟨η', S', g, c3, c11, c12, c14, c15, e1, e2⟩ := for_ok (body := fun η1 S2 => exec (Mn 10) w5_law η1 S2) (t := .tp (.cons (.nm 11) (.cons (.nm 3) .nil))) (lk := [(0, .lst (Q.map rq))]) (xs := Q.map fun q => .tup [wq q, rq q]) (η := sw ns b2 b3 b4 b5 b6 b7 b8 b9 (some (.lst (Q.map wq))) none none none none none) (S := .lst (Q.map rq) :: T)
      (fun _ η S' => ∃ c3 c11 c12 c14 c15, η = sw ns b2 c3 b4 b5 b6 b7 b8 b9 (some (.lst (Q.map wq))) c11 c12 none c14 c15 ∧ S' = .lst (Q.map rq) :: T)
      ⟨b3, none, none, none, none, rfl, rfl⟩ (fun _ η S' ⟨_, _, _, _, _, _, e⟩ p hp => by rw [List.mem_singleton.mp hp, e]; rfl) fun j x η S' hx ⟨c3, c11, c12, c14, c15, e1, e2⟩ => by
        subst e1 e2
        obtain ⟨q, hq, rfl⟩ := List.mem_map.mp (List.mem_of_getElem? hx)
        obtain ⟨d12, d14, d15, he⟩ := law_pair 5 ns hC (hC q hq) hN rfl b2 b4 b5 b6 b7 b8 b9 c12 none c14 c15
        exact ⟨_, rfl, _, _, .inl he, _, _, _, _, _, rfl, rfl⟩
    subst e1 e2
    exact ⟨c3, c11, c12, c14, c15, g⟩
  obtain ⟨c3, c11, c12, c14, c15, hloop2⟩ := loop2
  have hz : evS (Mn 10) (.zip (.var 10) (.var 1)) (sw ns b2 b3 b4 b5 b6 b7 b8 b9 (some (.lst (Q.map wq))) none none none none none) (.lst (Q.map rq) :: T) = .ok ([(0, .lst (Q.map rq))], Q.map fun q => .tup [wq q, rq q]) (.lst (Q.map rq) :: T) := by
    rw [← zip_q wq rq]
    exact ev_zip (l1 := []) (l2 := [(0, .lst (Q.map rq))]) (v_var rfl) (v_var rfl) rfl rfl
  have m1 : ev (Mn 10) (.inl (.new "Web" (.cons (.cst (.tup [])) (.cons (.cst (.tup [])) .nil)))) (sw ns b2 c3 b4 b5 b6 b7 b8 b9 (some (.lst (Q.map wq))) c11 c12 none c14 c15) (.lst (Q.map rq) :: T) = .ok (web [] []) (.lst (Q.map rq) :: T) :=
    e_empty 7 hN (vs_cons v_cst (vs_cons v_cst vs_nil)) (sq_tup []) (sq_tup [])
  have m2 : ev (Mn 10) (.inl (.new "Web" (.cons (.inl (.lst .nil)) (.cons (.tup .nil) .nil)))) (sw ns b2 c3 b4 b5 b6 b7 b8 b9 (some (.lst (Q.map wq))) c11 c12 none c14 c15) (.lst (Q.map rq) :: T) = .ok (web [] []) (.lst (Q.map rq) :: T) :=
    e_empty 7 hN (vs_cons (v_inl (f_lst vs_nil (show 0 ≤ 1000000 by decide))) (vs_cons (v_tup vs_nil (show 0 ≤ 1000000 by decide)) vs_nil)) (sq_lst []) (sq_tup [])
  have hw : (Mn 10).cal (dot "Web" "__eq__") [web [] [], web [] []] (.lst (Q.map rq) :: T) = .ok (.val (.bl true)) (.lst (Q.map rq) :: T) := by
    have := r_weq 9 raw_nil raw_nil rfl rfl hN
    simpa only [decide_true, Bool.and_self] using this
  have hr := r_wrepr 7 raw_nil hN
  rw [txt_nil] at hr
  have hl0 := r_wlen 9 (ld := []) (it := []) hN
  have s5 : exc1 (Mn 10) (.ret (.band (.oeq "Web" false (.inl (.new "Web" (.cons (.cst (.tup [])) (.cons (.cst (.tup [])) .nil)))) (.inl (.new "Web" (.cons (.inl (.lst .nil)) (.cons (.tup .nil) .nil))))) (.band (.cmp .Eq (.orepr "Web" (.inl (.new "Web" (.cons (.cst (.tup [])) (.cons (.cst (.tup [])) .nil))))) (.cst (.str "empty"))) (.cmp .Eq (.olen "Web" (.inl (.new "Web" (.cons (.cst (.tup [])) (.cons (.cst (.tup [])) .nil))))) (.cst (.int 0)))))) (sw ns b2 c3 b4 b5 b6 b7 b8 b9 (some (.lst (Q.map wq))) c11 c12 none c14 c15) (.lst (Q.map rq) :: T)
      = .ret (.val (.bl true)) (.lst (Q.map rq) :: T) :=
    x_ret _ _ (v_and1 (v_oeq (d := true) (ng := false) m1 m2 (has_web (by decide)) (eqY_web _ _ _) hw) (v_and1 (v_cmp (v_orepr m1 (has_web (by decide)) hr) v_cst rfl) (v_cmp (v_olen m1 (has_web (by decide)) hl0 (show 0 ≤ 1000000 by decide)) v_cst rfl)))
  exact ⟨_, ex_nx s1 (ex_nx (x_for _ _ _ (ev_rng1 (k := 4) v_cst (by decide)) hloop) (ex_nx s3 (ex_nx (x_for _ _ _ hz hloop2) (ex_ret s5))))⟩
end K03
set_option Elab.async false
set_option linter.all false
set_option maxRecDepth 100000
open PySem PySem.W PyProof.Rows
set_option maxHeartbeats 0 in
theorem PySem.Challenge.cw_osier_k03_webs_alike_and_as_text_holds : PySem.Challenge.rw_osier_k03_webs_alike_and_as_text.Holds := by
  w_on; o_law; k_head; (case hw => w_witness2)
  k_fill
  refine Oz.end_of (l := PySem.Challenge.rw_osier_k03_webs_alike_and_as_text) (n := 63) (k := 44) (x := "_law_script") rfl (by decide) rfl ⟨rfl, by decide, by decide⟩ (fun w h Y => PySem.W.kIn_of Y) ?F
  case F =>
    intro w mg fa h KX G hmg
    refine' K03.all_mk KX G hmg K03.law_true ?z_len ?z_all ?z_tuple ?z_repr ?z_str ?z_isinstance ?z_dict ?z_list ?z_sorted ?z_range ?z_zip ?z_enumerate ?z_min ?a_GONE ?a_LETTERS ?a_MOST_NAMES ?a_MOST_POINTS ?a_NOTHING ?aC ?pg ?hd ?po ?sa ?ha ?hn ?htk ?hm ?mk ?kc ?ic ?tc ?sd ?ne ?nfl ?nfs ?nft ?s_NoneType ?s_bool ?s_int ?s_str ?s_tuple ?s_list ?s_dict ?n_leads ?n_spots ?a_is_word ?l_is_word ?c_is_word ?k_is_word ?a_need_names ?l_need_names ?c_need_names ?k_need_names ?a_is_item ?l_is_item ?c_is_item ?k_is_item ?a_met_from ?l_met_from ?c_met_from ?k_met_from ?a_Webu_initu ?g_Webu_initu ?l_Webu_initu ?lT_Webu_initu ?vT_Webu_initu ?lp0_Webu_initu ?vp0_Webu_initu ?lp1_Webu_initu ?vp1_Webu_initu ?c_Webu_initu ?k_Webu_initu ?a_Webu_equ ?g_Webu_equ ?l_Webu_equ ?c_Webu_equ ?k_Webu_equ ?a_Webu_lenu ?g_Webu_lenu ?l_Webu_lenu ?c_Webu_lenu ?k_Webu_lenu ?a_Webu_repru ?g_Webu_repru ?l_Webu_repru ?c_Webu_repru ?k_Webu_repru ?a_Web_is_heap ?g_Web_is_heap ?l_Web_is_heap ?c_Web_is_heap ?k_Web_is_heap ?a_mark ?l_mark ?c_mark ?k_mark ?a_web_text ?l_web_text ?c_web_text ?k_web_text ?a__law_cell ?l__law_cell ?c__law_cell ?k__law_cell ?a__law_digits ?l__law_digits ?c__law_digits ?k__law_digits ?a__law_same ?l__law_same ?c__law_same ?k__law_same ?a__law_names ?l__law_names ?c__law_names ?k__law_names ?a__law_met ?l__law_met ?c__law_met ?k__law_met ?a__law_canon ?l__law_canon ?c__law_canon ?k__law_canon ?a__law_spots ?l__law_spots ?c__law_spots ?k__law_spots ?a__law_made ?l__law_made ?c__law_made ?k__law_made ?a__law_mark ?l__law_mark ?c__law_mark ?k__law_mark ?a__law_text ?l__law_text ?c__law_text ?k__law_text ?a__law_raw ?l__law_raw ?c__law_raw ?k__law_raw ?a__law_turned ?l__law_turned ?c__law_turned ?k__law_turned ?a_law ?l_law ?c_law ?k_law
    (case z_len => k_is)
    (case z_all => k_is)
    (case z_tuple => k_is)
    (case z_repr => k_is)
    (case z_str => k_is)
    (case z_isinstance => k_is)
    (case z_dict => k_is)
    (case z_list => k_is)
    (case z_sorted => k_is)
    (case z_range => k_is)
    (case z_zip => k_is)
    (case z_enumerate => k_is)
    (case z_min => k_is)
    (case a_GONE => k_is)
    (case a_LETTERS => k_is)
    (case a_MOST_NAMES => k_is)
    (case a_MOST_POINTS => k_is)
    (case a_NOTHING => k_is)
    (case aC => k_is)
    (case pg => k_is)
    (case hd => k_is)
    (case po => k_is)
    (case sa => k_is)
    (case ha => k_is)
    (case hn => k_is)
    (case htk => k_is)
    (case hm => k_is)
    (case mk => k_is)
    (case kc => k_is)
    (case ic => k_is)
    (case tc => k_is)
    (case sd => k_is)
    (case ne => k_is)
    (case nfl => k_is)
    (case nfs => k_is)
    (case nft => k_is)
    (case s_NoneType => k_is)
    (case s_bool => k_is)
    (case s_int => k_is)
    (case s_str => k_is)
    (case s_tuple => k_is)
    (case s_list => k_is)
    (case s_dict => k_is)
    (case n_leads => k_is)
    (case n_spots => k_is)
    (case a_is_word => k_is)
    (case l_is_word => k_is)
    (case c_is_word => k_is)
    (case k_is_word => k_is)
    (case a_need_names => k_is)
    (case l_need_names => k_is)
    (case c_need_names => k_is)
    (case k_need_names => k_is)
    (case a_is_item => k_is)
    (case l_is_item => k_is)
    (case c_is_item => k_is)
    (case k_is_item => k_is)
    (case a_met_from => k_is)
    (case l_met_from => k_is)
    (case c_met_from => k_is)
    (case k_met_from => k_is)
    (case a_Webu_initu => k_is)
    (case g_Webu_initu => k_is)
    (case l_Webu_initu => k_is)
    (case lT_Webu_initu => k_is)
    (case vT_Webu_initu => exact (.cons rfl (.cons rfl .nil)))
    (case lp0_Webu_initu => k_is)
    (case vp0_Webu_initu => exact ⟨by decide, .nil⟩)
    (case lp1_Webu_initu => k_is)
    (case vp1_Webu_initu => exact ⟨by decide, .nil⟩)
    (case c_Webu_initu => k_is)
    (case k_Webu_initu => k_is)
    (case a_Webu_equ => k_is)
    (case g_Webu_equ => k_is)
    (case l_Webu_equ => k_is)
    (case c_Webu_equ => k_is)
    (case k_Webu_equ => k_is)
    (case a_Webu_lenu => k_is)
    (case g_Webu_lenu => k_is)
    (case l_Webu_lenu => k_is)
    (case c_Webu_lenu => k_is)
    (case k_Webu_lenu => k_is)
    (case a_Webu_repru => k_is)
    (case g_Webu_repru => k_is)
    (case l_Webu_repru => k_is)
    (case c_Webu_repru => k_is)
    (case k_Webu_repru => k_is)
    (case a_Web_is_heap => k_is)
    (case g_Web_is_heap => k_is)
    (case l_Web_is_heap => k_is)
    (case c_Web_is_heap => k_is)
    (case k_Web_is_heap => k_is)
    (case a_mark => k_is)
    (case l_mark => k_is)
    (case c_mark => k_is)
    (case k_mark => k_is)
    (case a_web_text => k_is)
    (case l_web_text => k_is)
    (case c_web_text => k_is)
    (case k_web_text => k_is)
    (case a__law_cell => k_is)
    (case l__law_cell => k_is)
    (case c__law_cell => k_is)
    (case k__law_cell => k_is)
    (case a__law_digits => k_is)
    (case l__law_digits => k_is)
    (case c__law_digits => k_is)
    (case k__law_digits => k_is)
    (case a__law_same => k_is)
    (case l__law_same => k_is)
    (case c__law_same => k_is)
    (case k__law_same => k_is)
    (case a__law_names => k_is)
    (case l__law_names => k_is)
    (case c__law_names => k_is)
    (case k__law_names => k_is)
    (case a__law_met => k_is)
    (case l__law_met => k_is)
    (case c__law_met => k_is)
    (case k__law_met => k_is)
    (case a__law_canon => k_is)
    (case l__law_canon => k_is)
    (case c__law_canon => k_is)
    (case k__law_canon => k_is)
    (case a__law_spots => k_is)
    (case l__law_spots => k_is)
    (case c__law_spots => k_is)
    (case k__law_spots => k_is)
    (case a__law_made => k_is)
    (case l__law_made => k_is)
    (case c__law_made => k_is)
    (case k__law_made => k_is)
    (case a__law_mark => k_is)
    (case l__law_mark => k_is)
    (case c__law_mark => k_is)
    (case k__law_mark => k_is)
    (case a__law_text => k_is)
    (case l__law_text => k_is)
    (case c__law_text => k_is)
    (case k__law_text => k_is)
    (case a__law_raw => k_is)
    (case l__law_raw => k_is)
    (case c__law_raw => k_is)
    (case k__law_raw => k_is)
    (case a__law_turned => k_is)
    (case l__law_turned => k_is)
    (case c__law_turned => k_is)
    (case k__law_turned => k_is)
    (case a_law => k_is)
    (case l_law => k_is)
    (case c_law => k_is)
    (case k_law => k_is)
